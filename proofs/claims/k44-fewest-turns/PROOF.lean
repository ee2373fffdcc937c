import PyProof.Rows.All
import Wide.All
import OpenK.AllK
import Wide.FinOn
import HandS.ForMost
import HandS.Flow
import HandS.Style
import HandS.Conv
import HandS.Sort
import HandS.SortInts
import HandS.SortRule
import HandS.SortKw
import HandS.Deep
import HandS.Zip
import HandS.Walk
import HandS.DictComp
import HandS.DictTup
import HandS.IsInst
import HandS.TupAny
import HandS.TupLe
import HandS.TupSets
import HandS.Wide
import HandS.Evl
import HandS.Lambda
import HandS.Nested
import HandS.EndTab
import HandS.HeadWalk
import HandS.HeadHook4
import HandS.HeadEnd
import HandS.Head0
import HandS.Head1
import HandS.Head2
import KE.SortData
import KE.SortKeyHeap
import KE.GoesEnum
import PySem.Challenge.RW_terraces_k44_whole_fewest_turns
import HandS.NamedTupSort
section
set_option Elab.async false
set_option linter.all false
set_option maxRecDepth 100000
set_option maxHeartbeats 4000000
/-! The text by places, the facts that the top leaves, the call of a def. -/
namespace Tr
open PySem PySem.Spec PyProof.Rows L2
def top (i : Nat) : Stmt := PySem.Challenge.pw_terraces_k44_whole_fewest_turns.main.body.getD i (.Pass ⟨0, 0, 0, 0⟩)
abbrev s_is_int : Stmt := top 11
abbrev s_is_in : Stmt := top 12
abbrev s_is_pair : Stmt := top 13
abbrev s_has_form : Stmt := top 14
abbrev s_nears_of : Stmt := top 15
abbrev s_reach_of : Stmt := top 16
abbrev s_odd_hedge : Stmt := top 17
abbrev s_bar_of : Stmt := top 18
abbrev s_need_web : Stmt := top 19
abbrev s_need_field : Stmt := top 20
abbrev s_is_laying_of : Stmt := top 23
abbrev s_need_laying : Stmt := top 24
abbrev s_need_one : Stmt := top 25
abbrev s_need_two : Stmt := top 26
abbrev s_moved : Stmt := top 27
abbrev s_spread : Stmt := top 29
abbrev s_sign_of : Stmt := top 31
abbrev s_folds_of : Stmt := top 32
abbrev s_folds : Stmt := top 33
abbrev s_need_folds : Stmt := top 34
abbrev s_heights_of : Stmt := top 35
abbrev s_has_steps : Stmt := top 36
abbrev s_letters_at : Stmt := top 37
abbrev s_turn : Stmt := top 38
abbrev s_open_faces : Stmt := top 39
abbrev s_best_shift_of : Stmt := top 40
abbrev s_shift_distance : Stmt := top 41
abbrev s_best_shift : Stmt := top 42
abbrev s_fewest_turns : Stmt := top 43
abbrev s_steps_between : Stmt := top 45
abbrev s_distance : Stmt := top 46
abbrev s__law_taken : Stmt := top 48
abbrev s__law_pick : Stmt := top 49
abbrev s__law_alike : Stmt := top 50
abbrev s__law_mixed : Stmt := top 51
abbrev s__law_tree : Stmt := top 52
abbrev s__law_web : Stmt := top 53
abbrev s__law_nears : Stmt := top 54
abbrev s__law_far : Stmt := top 55
abbrev s__law_laying : Stmt := top 56
abbrev s__law_lows : Stmt := top 57
abbrev s__law_highs : Stmt := top 58
abbrev s__law_changed : Stmt := top 59
abbrev s__law_next : Stmt := top 60
abbrev s__law_all : Stmt := top 61
abbrev s__law_apart : Stmt := top 62
abbrev s_law : Stmt := top 63
/-- the def of the name x whose statement is st -/
def dD (x : Str) (st : Stmt) : He.DefD := ⟨(x, none), x, x, defArgs st, defBody st, defScope st, [], []⟩
def fnL : List He.DefD := [dD "is_int" s_is_int, dD "is_in" s_is_in, dD "is_pair" s_is_pair, dD "has_form" s_has_form, dD "nears_of" s_nears_of, dD "reach_of" s_reach_of, dD "odd_hedge" s_odd_hedge, dD "bar_of" s_bar_of, dD "need_web" s_need_web, dD "need_field" s_need_field, dD "is_laying_of" s_is_laying_of, dD "need_laying" s_need_laying, dD "need_one" s_need_one, dD "need_two" s_need_two, dD "moved" s_moved, dD "spread" s_spread, dD "sign_of" s_sign_of, dD "folds_of" s_folds_of, dD "folds" s_folds, dD "need_folds" s_need_folds, dD "heights_of" s_heights_of, dD "has_steps" s_has_steps, dD "letters_at" s_letters_at, dD "turn" s_turn, dD "open_faces" s_open_faces, dD "best_shift_of" s_best_shift_of, dD "shift_distance" s_shift_distance, dD "best_shift" s_best_shift, dD "fewest_turns" s_fewest_turns, dD "steps_between" s_steps_between, dD "distance" s_distance, dD "_law_taken" s__law_taken, dD "_law_pick" s__law_pick, dD "_law_alike" s__law_alike, dD "_law_mixed" s__law_mixed, dD "_law_tree" s__law_tree, dD "_law_web" s__law_web, dD "_law_nears" s__law_nears, dD "_law_far" s__law_far, dD "_law_laying" s__law_laying, dD "_law_lows" s__law_lows, dD "_law_highs" s__law_highs, dD "_law_changed" s__law_changed, dD "_law_next" s__law_next, dD "_law_all" s__law_all, dD "_law_apart" s__law_apart, dD "law" s_law]
def faL : List He.Fa := [.int "MOST_FIELDS" 60, .int "MOST_HEIGHT" 1000000, .free "abs", .free "all", .free "bool", .free "dict", .free "int", .free "isinstance", .free "len", .free "list", .free "max", .free "min", .free "range", .free "sorted", .free "str", .free "sum", .free "tuple", .free "zip", .glo "is_int", .glo "is_in", .glo "is_pair", .glo "has_form", .glo "nears_of", .glo "reach_of", .glo "odd_hedge", .glo "bar_of", .glo "need_web", .glo "need_field", .glo "is_laying_of", .glo "need_laying", .glo "need_one", .glo "need_two", .glo "moved", .glo "spread", .glo "sign_of", .glo "folds_of", .glo "folds", .glo "need_folds", .glo "heights_of", .glo "has_steps", .glo "letters_at", .glo "turn", .glo "open_faces", .glo "best_shift_of", .glo "shift_distance", .glo "best_shift", .glo "fewest_turns", .glo "steps_between", .glo "distance", .glo "_law_taken", .glo "_law_pick", .glo "_law_alike", .glo "_law_mixed", .glo "_law_tree", .glo "_law_web", .glo "_law_nears", .glo "_law_far", .glo "_law_laying", .glo "_law_lows", .glo "_law_highs", .glo "_law_changed", .glo "_law_next", .glo "_law_all", .glo "_law_apart", .glo "law"]
/-- what the top leaves, of the part K and the module's names mg -/
structure Tx (K : PySem.W.Frag) (mg : Str → Option Value) : Prop where
  fns : He.SaysD faL fnL K
  glo : ∀ x, He.Fa.glo x ∈ faL → mg x = some (.ref (He.ga K x))
  free : ∀ x, He.Fa.free x ∈ faL → mg x = none
  int : ∀ x i, He.Fa.int x i ∈ faL → ∃ t, mg x = some (.int i t)
theorem Tx.mk' {K : PySem.W.Frag} {h : Heap} {mg : Str → Option Value} (X : K.In h) (G : h.Ns mainGlobals mg) (c : He.SaysD faL fnL K) : Tx K mg :=
  ⟨c, fun _ hx => He.glo_ok X G (c.facts hx), fun _ hx => He.free_ok X G (c.facts hx), fun _ _ hx => He.int_ok X G (c.facts hx)⟩
/-- the def x stands and keeps the promise sp, at level k -/
def OkD (P : Program) (w : World) (K : PySem.W.Frag) (mg : Str → Option Value) (base : Heap) (k : Nat) (x : Str) (ps : List Str) (sp : Sp) : Prop :=
  ∃ fd, FnOk P w K mg base CX0 k (He.ga K x) fd ps sp ∧ Binds K fd ps [] ∧ PySem.W.keepIn K (.ref (He.ga K x)) = true ∧ mg x = some (.ref (He.ga K x))
theorem OkD.mono {P : Program} {w : World} {K : PySem.W.Frag} {mg : Str → Option Value} {base : Heap} {j k : Nat} {x : Str} {ps : List Str} {sp : Sp} (F : OkD P w K mg base j x ps sp) (h : j ≤ k) : OkD P w K mg base k x ps sp :=
  let ⟨fd, a, b, c, d⟩ := F
  ⟨fd, a.mono h, b, c, d⟩
/-- THE RULE of a def: st the statement, N its names by slot -/
theorem okD_of {P : Program} {w : World} {K : PySem.W.Frag} {mg : Str → Option Value} {base : Heap} {k : Nat} {x : Str} {st : Stmt} {N ps : List Str} {sp : Sp} (T : Tx K mg) (hm : dD x st ∈ fnL) (hg : He.Fa.glo x ∈ faL) (S : FnScope N ps (defScope st))
    (len : ∀ vs H Q E, sp vs H Q E → vs.length = ps.length)
    (hb : ∀ (kV doc pm : Value) (an : Option Addr) (cdv ct : Value) (us : List Value), us.length = ps.length → bindArgs (PySem.W.fnOf x x (defArgs st) (defBody st) (defScope st) .none kV doc pm an cdv ct) ⟨us, []⟩ = pure (ps.zip us))
    (hbody : ∀ (f : Addr) (cdv : Value) (A : Around) (outer : List Env) (s : Shared) (H : Hp) (vs : List V) (Q : VK) (E : XK), Room k (A.deeper (envOfC x (defScope st) s.heap.objs.size f cdv)) → sp vs H Q E →
      ∃ t, PSs (cxOf CX0 P w K mg base N x (defScope st) f cdv A outer s H E).nox (defBody st) t ∧ t { nx := fun _ H' => Q .non H', rt := Q } (start N vs) H) : OkD P w K mg base (k + 1) x ps sp := by
  obtain ⟨fd, F⟩ := T.fns.defs hm
  have F : FunD K x x (defArgs st) (defBody st) (defScope st) [] [] (He.ga K x) fd := F
  exact ⟨fd, F.ok S len (fun cdv A outer s H vs Q E hr h => by
    obtain ⟨t, h1, h2⟩ := hbody (He.ga K x) cdv A outer s H vs Q E hr h
    exact ⟨t, h1.nox, h2⟩), F.bindsN hb, F.kp, T.glo x hg⟩
section
variable {X : Cx} {k : Nat} {x : Str} {ps : List Str} {sp : Sp} {p pos : Pos} {e : Expr} {es : List Expr} {t : TA}
theorem pcall (F : OkD X.prog X.w X.K X.mg X.base k x ps sp) (hr : Room k X.A) (ha : PA X (e :: es) t) (hg : Gl X x := by rfl) (hdb : (x == ("__debug__" : Str)) = false := by decide) (he : starEach (e :: es) X.env = (false, eval e X.env) :: starEach es X.env := by rfl) (hpl : (backTo pos (starEach es X.env)).any (·.1) = false := by rfl) :
    PE X (.Call (.Name x p) (e :: es) [] pos) (tCall sp [] E0 t) :=
  let ⟨_, F, b, kp, g⟩ := F
  pe_call F hr hg g kp b .nil pass0 ha hdb he hpl
end
theorem Tx.b_abs {K : PySem.W.Frag} {mg : Str → Option Value} (T : Tx K mg) : mg "abs" = none := T.free _ (List.mem_of_getElem? (i := 2) rfl)
theorem Tx.b_all {K : PySem.W.Frag} {mg : Str → Option Value} (T : Tx K mg) : mg "all" = none := T.free _ (List.mem_of_getElem? (i := 3) rfl)
theorem Tx.b_bool {K : PySem.W.Frag} {mg : Str → Option Value} (T : Tx K mg) : mg "bool" = none := T.free _ (List.mem_of_getElem? (i := 4) rfl)
theorem Tx.b_dict {K : PySem.W.Frag} {mg : Str → Option Value} (T : Tx K mg) : mg "dict" = none := T.free _ (List.mem_of_getElem? (i := 5) rfl)
theorem Tx.b_int {K : PySem.W.Frag} {mg : Str → Option Value} (T : Tx K mg) : mg "int" = none := T.free _ (List.mem_of_getElem? (i := 6) rfl)
theorem Tx.b_isinstance {K : PySem.W.Frag} {mg : Str → Option Value} (T : Tx K mg) : mg "isinstance" = none := T.free _ (List.mem_of_getElem? (i := 7) rfl)
theorem Tx.b_len {K : PySem.W.Frag} {mg : Str → Option Value} (T : Tx K mg) : mg "len" = none := T.free _ (List.mem_of_getElem? (i := 8) rfl)
theorem Tx.b_list {K : PySem.W.Frag} {mg : Str → Option Value} (T : Tx K mg) : mg "list" = none := T.free _ (List.mem_of_getElem? (i := 9) rfl)
theorem Tx.b_max {K : PySem.W.Frag} {mg : Str → Option Value} (T : Tx K mg) : mg "max" = none := T.free _ (List.mem_of_getElem? (i := 10) rfl)
theorem Tx.b_min {K : PySem.W.Frag} {mg : Str → Option Value} (T : Tx K mg) : mg "min" = none := T.free _ (List.mem_of_getElem? (i := 11) rfl)
theorem Tx.b_range {K : PySem.W.Frag} {mg : Str → Option Value} (T : Tx K mg) : mg "range" = none := T.free _ (List.mem_of_getElem? (i := 12) rfl)
theorem Tx.b_sorted {K : PySem.W.Frag} {mg : Str → Option Value} (T : Tx K mg) : mg "sorted" = none := T.free _ (List.mem_of_getElem? (i := 13) rfl)
theorem Tx.b_str {K : PySem.W.Frag} {mg : Str → Option Value} (T : Tx K mg) : mg "str" = none := T.free _ (List.mem_of_getElem? (i := 14) rfl)
theorem Tx.b_sum {K : PySem.W.Frag} {mg : Str → Option Value} (T : Tx K mg) : mg "sum" = none := T.free _ (List.mem_of_getElem? (i := 15) rfl)
theorem Tx.b_tuple {K : PySem.W.Frag} {mg : Str → Option Value} (T : Tx K mg) : mg "tuple" = none := T.free _ (List.mem_of_getElem? (i := 16) rfl)
theorem Tx.b_zip {K : PySem.W.Frag} {mg : Str → Option Value} (T : Tx K mg) : mg "zip" = none := T.free _ (List.mem_of_getElem? (i := 17) rfl)
abbrev N_is_int : List Str := ["value"]
theorem sc_is_int : FnScope N_is_int ["value"] (defScope s_is_int) := ⟨rfl, rfl, rfl, by decide +kernel, rfl, by decide +kernel, by decide +kernel⟩
theorem mk_is_int {P : Program} {w : World} {K : PySem.W.Frag} {mg : Str → Option Value} {base : Heap} {k : Nat} {sp : Sp} (T : Tx K mg) (len : ∀ vs H Q E, sp vs H Q E → vs.length = (["value"] : List Str).length)
    (hbody : ∀ (f : Addr) (cdv : Value) (A : Around) (outer : List Env) (s : Shared) (H : Hp) (vs : List V) (Q : VK) (E : XK), Room k (A.deeper (envOfC "is_int" (defScope s_is_int) s.heap.objs.size f cdv)) → sp vs H Q E →
      ∃ t, PSs (cxOf CX0 P w K mg base N_is_int "is_int" (defScope s_is_int) f cdv A outer s H E).nox (defBody s_is_int) t ∧ t { nx := fun _ H' => Q .non H', rt := Q } (start N_is_int vs) H) : OkD P w K mg base (k + 1) "is_int" ["value"] sp :=
  okD_of T (List.mem_of_getElem? (i := 0) rfl) (List.mem_of_getElem? (i := 18) rfl) sc_is_int len (fun _ _ _ _ _ _ us hl => match us, hl with | [_], _ => rfl) hbody
abbrev N_is_in : List Str := ["value", "least", "most"]
theorem sc_is_in : FnScope N_is_in ["value", "least", "most"] (defScope s_is_in) := ⟨rfl, rfl, rfl, by decide +kernel, rfl, by decide +kernel, by decide +kernel⟩
theorem mk_is_in {P : Program} {w : World} {K : PySem.W.Frag} {mg : Str → Option Value} {base : Heap} {k : Nat} {sp : Sp} (T : Tx K mg) (len : ∀ vs H Q E, sp vs H Q E → vs.length = (["value", "least", "most"] : List Str).length)
    (hbody : ∀ (f : Addr) (cdv : Value) (A : Around) (outer : List Env) (s : Shared) (H : Hp) (vs : List V) (Q : VK) (E : XK), Room k (A.deeper (envOfC "is_in" (defScope s_is_in) s.heap.objs.size f cdv)) → sp vs H Q E →
      ∃ t, PSs (cxOf CX0 P w K mg base N_is_in "is_in" (defScope s_is_in) f cdv A outer s H E).nox (defBody s_is_in) t ∧ t { nx := fun _ H' => Q .non H', rt := Q } (start N_is_in vs) H) : OkD P w K mg base (k + 1) "is_in" ["value", "least", "most"] sp :=
  okD_of T (List.mem_of_getElem? (i := 1) rfl) (List.mem_of_getElem? (i := 19) rfl) sc_is_in len (fun _ _ _ _ _ _ us hl => match us, hl with | [_, _, _], _ => rfl) hbody
abbrev N_is_pair : List Str := ["value", "size", "field"]
theorem sc_is_pair : FnScope N_is_pair ["value", "size"] (defScope s_is_pair) := ⟨rfl, rfl, rfl, by decide +kernel, rfl, by decide +kernel, by decide +kernel⟩
theorem mk_is_pair {P : Program} {w : World} {K : PySem.W.Frag} {mg : Str → Option Value} {base : Heap} {k : Nat} {sp : Sp} (T : Tx K mg) (len : ∀ vs H Q E, sp vs H Q E → vs.length = (["value", "size"] : List Str).length)
    (hbody : ∀ (f : Addr) (cdv : Value) (A : Around) (outer : List Env) (s : Shared) (H : Hp) (vs : List V) (Q : VK) (E : XK), Room k (A.deeper (envOfC "is_pair" (defScope s_is_pair) s.heap.objs.size f cdv)) → sp vs H Q E →
      ∃ t, PSs (cxOf CX0 P w K mg base N_is_pair "is_pair" (defScope s_is_pair) f cdv A outer s H E).nox (defBody s_is_pair) t ∧ t { nx := fun _ H' => Q .non H', rt := Q } (start N_is_pair vs) H) : OkD P w K mg base (k + 1) "is_pair" ["value", "size"] sp :=
  okD_of T (List.mem_of_getElem? (i := 2) rfl) (List.mem_of_getElem? (i := 20) rfl) sc_is_pair len (fun _ _ _ _ _ _ us hl => match us, hl with | [_, _], _ => rfl) hbody
abbrev N_has_form : List Str := ["value", "one", "other", "hedge"]
theorem sc_has_form : FnScope N_has_form ["value"] (defScope s_has_form) := ⟨rfl, rfl, rfl, by decide +kernel, rfl, by decide +kernel, by decide +kernel⟩
theorem mk_has_form {P : Program} {w : World} {K : PySem.W.Frag} {mg : Str → Option Value} {base : Heap} {k : Nat} {sp : Sp} (T : Tx K mg) (len : ∀ vs H Q E, sp vs H Q E → vs.length = (["value"] : List Str).length)
    (hbody : ∀ (f : Addr) (cdv : Value) (A : Around) (outer : List Env) (s : Shared) (H : Hp) (vs : List V) (Q : VK) (E : XK), Room k (A.deeper (envOfC "has_form" (defScope s_has_form) s.heap.objs.size f cdv)) → sp vs H Q E →
      ∃ t, PSs (cxOf CX0 P w K mg base N_has_form "has_form" (defScope s_has_form) f cdv A outer s H E).nox (defBody s_has_form) t ∧ t { nx := fun _ H' => Q .non H', rt := Q } (start N_has_form vs) H) : OkD P w K mg base (k + 1) "has_form" ["value"] sp :=
  okD_of T (List.mem_of_getElem? (i := 3) rfl) (List.mem_of_getElem? (i := 21) rfl) sc_has_form len (fun _ _ _ _ _ _ us hl => match us, hl with | [_], _ => rfl) hbody
abbrev N_nears_of : List Str := ["web", "found", "one", "other", "field", "told"]
theorem sc_nears_of : FnScope N_nears_of ["web"] (defScope s_nears_of) := ⟨rfl, rfl, rfl, by decide +kernel, rfl, by decide +kernel, by decide +kernel⟩
theorem mk_nears_of {P : Program} {w : World} {K : PySem.W.Frag} {mg : Str → Option Value} {base : Heap} {k : Nat} {sp : Sp} (T : Tx K mg) (len : ∀ vs H Q E, sp vs H Q E → vs.length = (["web"] : List Str).length)
    (hbody : ∀ (f : Addr) (cdv : Value) (A : Around) (outer : List Env) (s : Shared) (H : Hp) (vs : List V) (Q : VK) (E : XK), Room k (A.deeper (envOfC "nears_of" (defScope s_nears_of) s.heap.objs.size f cdv)) → sp vs H Q E →
      ∃ t, PSs (cxOf CX0 P w K mg base N_nears_of "nears_of" (defScope s_nears_of) f cdv A outer s H E).nox (defBody s_nears_of) t ∧ t { nx := fun _ H' => Q .non H', rt := Q } (start N_nears_of vs) H) : OkD P w K mg base (k + 1) "nears_of" ["web"] sp :=
  okD_of T (List.mem_of_getElem? (i := 4) rfl) (List.mem_of_getElem? (i := 22) rfl) sc_nears_of len (fun _ _ _ _ _ _ us hl => match us, hl with | [_], _ => rfl) hbody
abbrev N_reach_of : List Str := ["web", "first", "nears", "found", "line", "at", "field"]
theorem sc_reach_of : FnScope N_reach_of ["web", "first"] (defScope s_reach_of) := ⟨rfl, rfl, rfl, by decide +kernel, rfl, by decide +kernel, by decide +kernel⟩
theorem mk_reach_of {P : Program} {w : World} {K : PySem.W.Frag} {mg : Str → Option Value} {base : Heap} {k : Nat} {sp : Sp} (T : Tx K mg) (len : ∀ vs H Q E, sp vs H Q E → vs.length = (["web", "first"] : List Str).length)
    (hbody : ∀ (f : Addr) (cdv : Value) (A : Around) (outer : List Env) (s : Shared) (H : Hp) (vs : List V) (Q : VK) (E : XK), Room k (A.deeper (envOfC "reach_of" (defScope s_reach_of) s.heap.objs.size f cdv)) → sp vs H Q E →
      ∃ t, PSs (cxOf CX0 P w K mg base N_reach_of "reach_of" (defScope s_reach_of) f cdv A outer s H E).nox (defBody s_reach_of) t ∧ t { nx := fun _ H' => Q .non H', rt := Q } (start N_reach_of vs) H) : OkD P w K mg base (k + 1) "reach_of" ["web", "first"] sp :=
  okD_of T (List.mem_of_getElem? (i := 5) rfl) (List.mem_of_getElem? (i := 23) rfl) sc_reach_of len (fun _ _ _ _ _ _ us hl => match us, hl with | [_, _], _ => rfl) hbody
abbrev N_odd_hedge : List Str := ["web", "told", "some", "hedge"]
theorem sc_odd_hedge : FnScope N_odd_hedge ["web"] (defScope s_odd_hedge) := ⟨rfl, rfl, rfl, by decide +kernel, rfl, by decide +kernel, by decide +kernel⟩
theorem mk_odd_hedge {P : Program} {w : World} {K : PySem.W.Frag} {mg : Str → Option Value} {base : Heap} {k : Nat} {sp : Sp} (T : Tx K mg) (len : ∀ vs H Q E, sp vs H Q E → vs.length = (["web"] : List Str).length)
    (hbody : ∀ (f : Addr) (cdv : Value) (A : Around) (outer : List Env) (s : Shared) (H : Hp) (vs : List V) (Q : VK) (E : XK), Room k (A.deeper (envOfC "odd_hedge" (defScope s_odd_hedge) s.heap.objs.size f cdv)) → sp vs H Q E →
      ∃ t, PSs (cxOf CX0 P w K mg base N_odd_hedge "odd_hedge" (defScope s_odd_hedge) f cdv A outer s H E).nox (defBody s_odd_hedge) t ∧ t { nx := fun _ H' => Q .non H', rt := Q } (start N_odd_hedge vs) H) : OkD P w K mg base (k + 1) "odd_hedge" ["web"] sp :=
  okD_of T (List.mem_of_getElem? (i := 6) rfl) (List.mem_of_getElem? (i := 24) rfl) sc_odd_hedge len (fun _ _ _ _ _ _ us hl => match us, hl with | [_], _ => rfl) hbody
abbrev N_bar_of : List Str := ["web", "told", "hedge", "field"]
theorem sc_bar_of : FnScope N_bar_of ["web"] (defScope s_bar_of) := ⟨rfl, rfl, rfl, by decide +kernel, rfl, by decide +kernel, by decide +kernel⟩
theorem mk_bar_of {P : Program} {w : World} {K : PySem.W.Frag} {mg : Str → Option Value} {base : Heap} {k : Nat} {sp : Sp} (T : Tx K mg) (len : ∀ vs H Q E, sp vs H Q E → vs.length = (["web"] : List Str).length)
    (hbody : ∀ (f : Addr) (cdv : Value) (A : Around) (outer : List Env) (s : Shared) (H : Hp) (vs : List V) (Q : VK) (E : XK), Room k (A.deeper (envOfC "bar_of" (defScope s_bar_of) s.heap.objs.size f cdv)) → sp vs H Q E →
      ∃ t, PSs (cxOf CX0 P w K mg base N_bar_of "bar_of" (defScope s_bar_of) f cdv A outer s H E).nox (defBody s_bar_of) t ∧ t { nx := fun _ H' => Q .non H', rt := Q } (start N_bar_of vs) H) : OkD P w K mg base (k + 1) "bar_of" ["web"] sp :=
  okD_of T (List.mem_of_getElem? (i := 7) rfl) (List.mem_of_getElem? (i := 25) rfl) sc_bar_of len (fun _ _ _ _ _ _ us hl => match us, hl with | [_], _ => rfl) hbody
abbrev N_need_web : List Str := ["value"]
theorem sc_need_web : FnScope N_need_web ["value"] (defScope s_need_web) := ⟨rfl, rfl, rfl, by decide +kernel, rfl, by decide +kernel, by decide +kernel⟩
theorem mk_need_web {P : Program} {w : World} {K : PySem.W.Frag} {mg : Str → Option Value} {base : Heap} {k : Nat} {sp : Sp} (T : Tx K mg) (len : ∀ vs H Q E, sp vs H Q E → vs.length = (["value"] : List Str).length)
    (hbody : ∀ (f : Addr) (cdv : Value) (A : Around) (outer : List Env) (s : Shared) (H : Hp) (vs : List V) (Q : VK) (E : XK), Room k (A.deeper (envOfC "need_web" (defScope s_need_web) s.heap.objs.size f cdv)) → sp vs H Q E →
      ∃ t, PSs (cxOf CX0 P w K mg base N_need_web "need_web" (defScope s_need_web) f cdv A outer s H E).nox (defBody s_need_web) t ∧ t { nx := fun _ H' => Q .non H', rt := Q } (start N_need_web vs) H) : OkD P w K mg base (k + 1) "need_web" ["value"] sp :=
  okD_of T (List.mem_of_getElem? (i := 8) rfl) (List.mem_of_getElem? (i := 26) rfl) sc_need_web len (fun _ _ _ _ _ _ us hl => match us, hl with | [_], _ => rfl) hbody
abbrev N_need_field : List Str := ["web", "value"]
theorem sc_need_field : FnScope N_need_field ["web", "value"] (defScope s_need_field) := ⟨rfl, rfl, rfl, by decide +kernel, rfl, by decide +kernel, by decide +kernel⟩
theorem mk_need_field {P : Program} {w : World} {K : PySem.W.Frag} {mg : Str → Option Value} {base : Heap} {k : Nat} {sp : Sp} (T : Tx K mg) (len : ∀ vs H Q E, sp vs H Q E → vs.length = (["web", "value"] : List Str).length)
    (hbody : ∀ (f : Addr) (cdv : Value) (A : Around) (outer : List Env) (s : Shared) (H : Hp) (vs : List V) (Q : VK) (E : XK), Room k (A.deeper (envOfC "need_field" (defScope s_need_field) s.heap.objs.size f cdv)) → sp vs H Q E →
      ∃ t, PSs (cxOf CX0 P w K mg base N_need_field "need_field" (defScope s_need_field) f cdv A outer s H E).nox (defBody s_need_field) t ∧ t { nx := fun _ H' => Q .non H', rt := Q } (start N_need_field vs) H) : OkD P w K mg base (k + 1) "need_field" ["web", "value"] sp :=
  okD_of T (List.mem_of_getElem? (i := 9) rfl) (List.mem_of_getElem? (i := 27) rfl) sc_need_field len (fun _ _ _ _ _ _ us hl => match us, hl with | [_, _], _ => rfl) hbody
abbrev N_is_laying_of : List Str := ["web", "value", "one", "other", "height"]
theorem sc_is_laying_of : FnScope N_is_laying_of ["web", "value"] (defScope s_is_laying_of) := ⟨rfl, rfl, rfl, by decide +kernel, rfl, by decide +kernel, by decide +kernel⟩
theorem mk_is_laying_of {P : Program} {w : World} {K : PySem.W.Frag} {mg : Str → Option Value} {base : Heap} {k : Nat} {sp : Sp} (T : Tx K mg) (len : ∀ vs H Q E, sp vs H Q E → vs.length = (["web", "value"] : List Str).length)
    (hbody : ∀ (f : Addr) (cdv : Value) (A : Around) (outer : List Env) (s : Shared) (H : Hp) (vs : List V) (Q : VK) (E : XK), Room k (A.deeper (envOfC "is_laying_of" (defScope s_is_laying_of) s.heap.objs.size f cdv)) → sp vs H Q E →
      ∃ t, PSs (cxOf CX0 P w K mg base N_is_laying_of "is_laying_of" (defScope s_is_laying_of) f cdv A outer s H E).nox (defBody s_is_laying_of) t ∧ t { nx := fun _ H' => Q .non H', rt := Q } (start N_is_laying_of vs) H) : OkD P w K mg base (k + 1) "is_laying_of" ["web", "value"] sp :=
  okD_of T (List.mem_of_getElem? (i := 10) rfl) (List.mem_of_getElem? (i := 28) rfl) sc_is_laying_of len (fun _ _ _ _ _ _ us hl => match us, hl with | [_, _], _ => rfl) hbody
abbrev N_need_laying : List Str := ["web", "value"]
theorem sc_need_laying : FnScope N_need_laying ["web", "value"] (defScope s_need_laying) := ⟨rfl, rfl, rfl, by decide +kernel, rfl, by decide +kernel, by decide +kernel⟩
theorem mk_need_laying {P : Program} {w : World} {K : PySem.W.Frag} {mg : Str → Option Value} {base : Heap} {k : Nat} {sp : Sp} (T : Tx K mg) (len : ∀ vs H Q E, sp vs H Q E → vs.length = (["web", "value"] : List Str).length)
    (hbody : ∀ (f : Addr) (cdv : Value) (A : Around) (outer : List Env) (s : Shared) (H : Hp) (vs : List V) (Q : VK) (E : XK), Room k (A.deeper (envOfC "need_laying" (defScope s_need_laying) s.heap.objs.size f cdv)) → sp vs H Q E →
      ∃ t, PSs (cxOf CX0 P w K mg base N_need_laying "need_laying" (defScope s_need_laying) f cdv A outer s H E).nox (defBody s_need_laying) t ∧ t { nx := fun _ H' => Q .non H', rt := Q } (start N_need_laying vs) H) : OkD P w K mg base (k + 1) "need_laying" ["web", "value"] sp :=
  okD_of T (List.mem_of_getElem? (i := 11) rfl) (List.mem_of_getElem? (i := 29) rfl) sc_need_laying len (fun _ _ _ _ _ _ us hl => match us, hl with | [_, _], _ => rfl) hbody
abbrev N_need_one : List Str := ["web", "laying"]
theorem sc_need_one : FnScope N_need_one ["web", "laying"] (defScope s_need_one) := ⟨rfl, rfl, rfl, by decide +kernel, rfl, by decide +kernel, by decide +kernel⟩
theorem mk_need_one {P : Program} {w : World} {K : PySem.W.Frag} {mg : Str → Option Value} {base : Heap} {k : Nat} {sp : Sp} (T : Tx K mg) (len : ∀ vs H Q E, sp vs H Q E → vs.length = (["web", "laying"] : List Str).length)
    (hbody : ∀ (f : Addr) (cdv : Value) (A : Around) (outer : List Env) (s : Shared) (H : Hp) (vs : List V) (Q : VK) (E : XK), Room k (A.deeper (envOfC "need_one" (defScope s_need_one) s.heap.objs.size f cdv)) → sp vs H Q E →
      ∃ t, PSs (cxOf CX0 P w K mg base N_need_one "need_one" (defScope s_need_one) f cdv A outer s H E).nox (defBody s_need_one) t ∧ t { nx := fun _ H' => Q .non H', rt := Q } (start N_need_one vs) H) : OkD P w K mg base (k + 1) "need_one" ["web", "laying"] sp :=
  okD_of T (List.mem_of_getElem? (i := 12) rfl) (List.mem_of_getElem? (i := 30) rfl) sc_need_one len (fun _ _ _ _ _ _ us hl => match us, hl with | [_, _], _ => rfl) hbody
abbrev N_need_two : List Str := ["web", "one", "other"]
theorem sc_need_two : FnScope N_need_two ["web", "one", "other"] (defScope s_need_two) := ⟨rfl, rfl, rfl, by decide +kernel, rfl, by decide +kernel, by decide +kernel⟩
theorem mk_need_two {P : Program} {w : World} {K : PySem.W.Frag} {mg : Str → Option Value} {base : Heap} {k : Nat} {sp : Sp} (T : Tx K mg) (len : ∀ vs H Q E, sp vs H Q E → vs.length = (["web", "one", "other"] : List Str).length)
    (hbody : ∀ (f : Addr) (cdv : Value) (A : Around) (outer : List Env) (s : Shared) (H : Hp) (vs : List V) (Q : VK) (E : XK), Room k (A.deeper (envOfC "need_two" (defScope s_need_two) s.heap.objs.size f cdv)) → sp vs H Q E →
      ∃ t, PSs (cxOf CX0 P w K mg base N_need_two "need_two" (defScope s_need_two) f cdv A outer s H E).nox (defBody s_need_two) t ∧ t { nx := fun _ H' => Q .non H', rt := Q } (start N_need_two vs) H) : OkD P w K mg base (k + 1) "need_two" ["web", "one", "other"] sp :=
  okD_of T (List.mem_of_getElem? (i := 13) rfl) (List.mem_of_getElem? (i := 31) rfl) sc_need_two len (fun _ _ _ _ _ _ us hl => match us, hl with | [_, _, _], _ => rfl) hbody
abbrev N_moved : List Str := ["web", "laying", "by", "found", "height"]
theorem sc_moved : FnScope N_moved ["web", "laying", "by"] (defScope s_moved) := ⟨rfl, rfl, rfl, by decide +kernel, rfl, by decide +kernel, by decide +kernel⟩
theorem mk_moved {P : Program} {w : World} {K : PySem.W.Frag} {mg : Str → Option Value} {base : Heap} {k : Nat} {sp : Sp} (T : Tx K mg) (len : ∀ vs H Q E, sp vs H Q E → vs.length = (["web", "laying", "by"] : List Str).length)
    (hbody : ∀ (f : Addr) (cdv : Value) (A : Around) (outer : List Env) (s : Shared) (H : Hp) (vs : List V) (Q : VK) (E : XK), Room k (A.deeper (envOfC "moved" (defScope s_moved) s.heap.objs.size f cdv)) → sp vs H Q E →
      ∃ t, PSs (cxOf CX0 P w K mg base N_moved "moved" (defScope s_moved) f cdv A outer s H E).nox (defBody s_moved) t ∧ t { nx := fun _ H' => Q .non H', rt := Q } (start N_moved vs) H) : OkD P w K mg base (k + 1) "moved" ["web", "laying", "by"] sp :=
  okD_of T (List.mem_of_getElem? (i := 14) rfl) (List.mem_of_getElem? (i := 32) rfl) sc_moved len (fun _ _ _ _ _ _ us hl => match us, hl with | [_, _, _], _ => rfl) hbody
abbrev N_spread : List Str := ["web", "height", "steps", "nears", "found", "line", "at", "here", "near", "field"]
theorem sc_spread : FnScope N_spread ["web", "height", "steps"] (defScope s_spread) := ⟨rfl, rfl, rfl, by decide +kernel, rfl, by decide +kernel, by decide +kernel⟩
theorem mk_spread {P : Program} {w : World} {K : PySem.W.Frag} {mg : Str → Option Value} {base : Heap} {k : Nat} {sp : Sp} (T : Tx K mg) (len : ∀ vs H Q E, sp vs H Q E → vs.length = (["web", "height", "steps"] : List Str).length)
    (hbody : ∀ (f : Addr) (cdv : Value) (A : Around) (outer : List Env) (s : Shared) (H : Hp) (vs : List V) (Q : VK) (E : XK), Room k (A.deeper (envOfC "spread" (defScope s_spread) s.heap.objs.size f cdv)) → sp vs H Q E →
      ∃ t, PSs (cxOf CX0 P w K mg base N_spread "spread" (defScope s_spread) f cdv A outer s H E).nox (defBody s_spread) t ∧ t { nx := fun _ H' => Q .non H', rt := Q } (start N_spread vs) H) : OkD P w K mg base (k + 1) "spread" ["web", "height", "steps"] sp :=
  okD_of T (List.mem_of_getElem? (i := 15) rfl) (List.mem_of_getElem? (i := 33) rfl) sc_spread len (fun _ _ _ _ _ _ us hl => match us, hl with | [_, _, _], _ => rfl) hbody
abbrev N_sign_of : List Str := ["even", "one"]
theorem sc_sign_of : FnScope N_sign_of ["even", "one"] (defScope s_sign_of) := ⟨rfl, rfl, rfl, by decide +kernel, rfl, by decide +kernel, by decide +kernel⟩
theorem mk_sign_of {P : Program} {w : World} {K : PySem.W.Frag} {mg : Str → Option Value} {base : Heap} {k : Nat} {sp : Sp} (T : Tx K mg) (len : ∀ vs H Q E, sp vs H Q E → vs.length = (["even", "one"] : List Str).length)
    (hbody : ∀ (f : Addr) (cdv : Value) (A : Around) (outer : List Env) (s : Shared) (H : Hp) (vs : List V) (Q : VK) (E : XK), Room k (A.deeper (envOfC "sign_of" (defScope s_sign_of) s.heap.objs.size f cdv)) → sp vs H Q E →
      ∃ t, PSs (cxOf CX0 P w K mg base N_sign_of "sign_of" (defScope s_sign_of) f cdv A outer s H E).nox (defBody s_sign_of) t ∧ t { nx := fun _ H' => Q .non H', rt := Q } (start N_sign_of vs) H) : OkD P w K mg base (k + 1) "sign_of" ["even", "one"] sp :=
  okD_of T (List.mem_of_getElem? (i := 16) rfl) (List.mem_of_getElem? (i := 34) rfl) sc_sign_of len (fun _ _ _ _ _ _ us hl => match us, hl with | [_, _], _ => rfl) hbody
abbrev N_folds_of : List Str := ["web", "laying", "even", "one", "other"]
theorem sc_folds_of : FnScope N_folds_of ["web", "laying"] (defScope s_folds_of) := ⟨rfl, rfl, rfl, by decide +kernel, rfl, by decide +kernel, by decide +kernel⟩
theorem mk_folds_of {P : Program} {w : World} {K : PySem.W.Frag} {mg : Str → Option Value} {base : Heap} {k : Nat} {sp : Sp} (T : Tx K mg) (len : ∀ vs H Q E, sp vs H Q E → vs.length = (["web", "laying"] : List Str).length)
    (hbody : ∀ (f : Addr) (cdv : Value) (A : Around) (outer : List Env) (s : Shared) (H : Hp) (vs : List V) (Q : VK) (E : XK), Room k (A.deeper (envOfC "folds_of" (defScope s_folds_of) s.heap.objs.size f cdv)) → sp vs H Q E →
      ∃ t, PSs (cxOf CX0 P w K mg base N_folds_of "folds_of" (defScope s_folds_of) f cdv A outer s H E).nox (defBody s_folds_of) t ∧ t { nx := fun _ H' => Q .non H', rt := Q } (start N_folds_of vs) H) : OkD P w K mg base (k + 1) "folds_of" ["web", "laying"] sp :=
  okD_of T (List.mem_of_getElem? (i := 17) rfl) (List.mem_of_getElem? (i := 35) rfl) sc_folds_of len (fun _ _ _ _ _ _ us hl => match us, hl with | [_, _], _ => rfl) hbody
abbrev N_folds : List Str := ["web", "laying"]
theorem sc_folds : FnScope N_folds ["web", "laying"] (defScope s_folds) := ⟨rfl, rfl, rfl, by decide +kernel, rfl, by decide +kernel, by decide +kernel⟩
theorem mk_folds {P : Program} {w : World} {K : PySem.W.Frag} {mg : Str → Option Value} {base : Heap} {k : Nat} {sp : Sp} (T : Tx K mg) (len : ∀ vs H Q E, sp vs H Q E → vs.length = (["web", "laying"] : List Str).length)
    (hbody : ∀ (f : Addr) (cdv : Value) (A : Around) (outer : List Env) (s : Shared) (H : Hp) (vs : List V) (Q : VK) (E : XK), Room k (A.deeper (envOfC "folds" (defScope s_folds) s.heap.objs.size f cdv)) → sp vs H Q E →
      ∃ t, PSs (cxOf CX0 P w K mg base N_folds "folds" (defScope s_folds) f cdv A outer s H E).nox (defBody s_folds) t ∧ t { nx := fun _ H' => Q .non H', rt := Q } (start N_folds vs) H) : OkD P w K mg base (k + 1) "folds" ["web", "laying"] sp :=
  okD_of T (List.mem_of_getElem? (i := 18) rfl) (List.mem_of_getElem? (i := 36) rfl) sc_folds len (fun _ _ _ _ _ _ us hl => match us, hl with | [_, _], _ => rfl) hbody
abbrev N_need_folds : List Str := ["web", "value", "letter"]
theorem sc_need_folds : FnScope N_need_folds ["web", "value"] (defScope s_need_folds) := ⟨rfl, rfl, rfl, by decide +kernel, rfl, by decide +kernel, by decide +kernel⟩
theorem mk_need_folds {P : Program} {w : World} {K : PySem.W.Frag} {mg : Str → Option Value} {base : Heap} {k : Nat} {sp : Sp} (T : Tx K mg) (len : ∀ vs H Q E, sp vs H Q E → vs.length = (["web", "value"] : List Str).length)
    (hbody : ∀ (f : Addr) (cdv : Value) (A : Around) (outer : List Env) (s : Shared) (H : Hp) (vs : List V) (Q : VK) (E : XK), Room k (A.deeper (envOfC "need_folds" (defScope s_need_folds) s.heap.objs.size f cdv)) → sp vs H Q E →
      ∃ t, PSs (cxOf CX0 P w K mg base N_need_folds "need_folds" (defScope s_need_folds) f cdv A outer s H E).nox (defBody s_need_folds) t ∧ t { nx := fun _ H' => Q .non H', rt := Q } (start N_need_folds vs) H) : OkD P w K mg base (k + 1) "need_folds" ["web", "value"] sp :=
  okD_of T (List.mem_of_getElem? (i := 19) rfl) (List.mem_of_getElem? (i := 37) rfl) sc_need_folds len (fun _ _ _ _ _ _ us hl => match us, hl with | [_, _], _ => rfl) hbody
abbrev N_heights_of : List Str := ["web", "text", "height", "even", "steps", "one", "other", "letter", "found"]
theorem sc_heights_of : FnScope N_heights_of ["web", "text", "height"] (defScope s_heights_of) := ⟨rfl, rfl, rfl, by decide +kernel, rfl, by decide +kernel, by decide +kernel⟩
theorem mk_heights_of {P : Program} {w : World} {K : PySem.W.Frag} {mg : Str → Option Value} {base : Heap} {k : Nat} {sp : Sp} (T : Tx K mg) (len : ∀ vs H Q E, sp vs H Q E → vs.length = (["web", "text", "height"] : List Str).length)
    (hbody : ∀ (f : Addr) (cdv : Value) (A : Around) (outer : List Env) (s : Shared) (H : Hp) (vs : List V) (Q : VK) (E : XK), Room k (A.deeper (envOfC "heights_of" (defScope s_heights_of) s.heap.objs.size f cdv)) → sp vs H Q E →
      ∃ t, PSs (cxOf CX0 P w K mg base N_heights_of "heights_of" (defScope s_heights_of) f cdv A outer s H E).nox (defBody s_heights_of) t ∧ t { nx := fun _ H' => Q .non H', rt := Q } (start N_heights_of vs) H) : OkD P w K mg base (k + 1) "heights_of" ["web", "text", "height"] sp :=
  okD_of T (List.mem_of_getElem? (i := 20) rfl) (List.mem_of_getElem? (i := 38) rfl) sc_heights_of len (fun _ _ _ _ _ _ us hl => match us, hl with | [_, _, _], _ => rfl) hbody
abbrev N_has_steps : List Str := ["web", "laying", "one", "other"]
theorem sc_has_steps : FnScope N_has_steps ["web", "laying"] (defScope s_has_steps) := ⟨rfl, rfl, rfl, by decide +kernel, rfl, by decide +kernel, by decide +kernel⟩
theorem mk_has_steps {P : Program} {w : World} {K : PySem.W.Frag} {mg : Str → Option Value} {base : Heap} {k : Nat} {sp : Sp} (T : Tx K mg) (len : ∀ vs H Q E, sp vs H Q E → vs.length = (["web", "laying"] : List Str).length)
    (hbody : ∀ (f : Addr) (cdv : Value) (A : Around) (outer : List Env) (s : Shared) (H : Hp) (vs : List V) (Q : VK) (E : XK), Room k (A.deeper (envOfC "has_steps" (defScope s_has_steps) s.heap.objs.size f cdv)) → sp vs H Q E →
      ∃ t, PSs (cxOf CX0 P w K mg base N_has_steps "has_steps" (defScope s_has_steps) f cdv A outer s H E).nox (defBody s_has_steps) t ∧ t { nx := fun _ H' => Q .non H', rt := Q } (start N_has_steps vs) H) : OkD P w K mg base (k + 1) "has_steps" ["web", "laying"] sp :=
  okD_of T (List.mem_of_getElem? (i := 21) rfl) (List.mem_of_getElem? (i := 39) rfl) sc_has_steps len (fun _ _ _ _ _ _ us hl => match us, hl with | [_, _], _ => rfl) hbody
abbrev N_letters_at : List Str := ["web", "text", "field", "hedge", "letter"]
theorem sc_letters_at : FnScope N_letters_at ["web", "text", "field"] (defScope s_letters_at) := ⟨rfl, rfl, rfl, by decide +kernel, rfl, by decide +kernel, by decide +kernel⟩
theorem mk_letters_at {P : Program} {w : World} {K : PySem.W.Frag} {mg : Str → Option Value} {base : Heap} {k : Nat} {sp : Sp} (T : Tx K mg) (len : ∀ vs H Q E, sp vs H Q E → vs.length = (["web", "text", "field"] : List Str).length)
    (hbody : ∀ (f : Addr) (cdv : Value) (A : Around) (outer : List Env) (s : Shared) (H : Hp) (vs : List V) (Q : VK) (E : XK), Room k (A.deeper (envOfC "letters_at" (defScope s_letters_at) s.heap.objs.size f cdv)) → sp vs H Q E →
      ∃ t, PSs (cxOf CX0 P w K mg base N_letters_at "letters_at" (defScope s_letters_at) f cdv A outer s H E).nox (defBody s_letters_at) t ∧ t { nx := fun _ H' => Q .non H', rt := Q } (start N_letters_at vs) H) : OkD P w K mg base (k + 1) "letters_at" ["web", "text", "field"] sp :=
  okD_of T (List.mem_of_getElem? (i := 22) rfl) (List.mem_of_getElem? (i := 40) rfl) sc_letters_at len (fun _ _ _ _ _ _ us hl => match us, hl with | [_, _, _], _ => rfl) hbody
abbrev N_turn : List Str := ["web", "text", "field", "letter", "found", "hedge"]
theorem sc_turn : FnScope N_turn ["web", "text", "field"] (defScope s_turn) := ⟨rfl, rfl, rfl, by decide +kernel, rfl, by decide +kernel, by decide +kernel⟩
theorem mk_turn {P : Program} {w : World} {K : PySem.W.Frag} {mg : Str → Option Value} {base : Heap} {k : Nat} {sp : Sp} (T : Tx K mg) (len : ∀ vs H Q E, sp vs H Q E → vs.length = (["web", "text", "field"] : List Str).length)
    (hbody : ∀ (f : Addr) (cdv : Value) (A : Around) (outer : List Env) (s : Shared) (H : Hp) (vs : List V) (Q : VK) (E : XK), Room k (A.deeper (envOfC "turn" (defScope s_turn) s.heap.objs.size f cdv)) → sp vs H Q E →
      ∃ t, PSs (cxOf CX0 P w K mg base N_turn "turn" (defScope s_turn) f cdv A outer s H E).nox (defBody s_turn) t ∧ t { nx := fun _ H' => Q .non H', rt := Q } (start N_turn vs) H) : OkD P w K mg base (k + 1) "turn" ["web", "text", "field"] sp :=
  okD_of T (List.mem_of_getElem? (i := 23) rfl) (List.mem_of_getElem? (i := 41) rfl) sc_turn len (fun _ _ _ _ _ _ us hl => match us, hl with | [_, _, _], _ => rfl) hbody
abbrev N_open_faces : List Str := ["web", "text", "field", "one"]
theorem sc_open_faces : FnScope N_open_faces ["web", "text"] (defScope s_open_faces) := ⟨rfl, rfl, rfl, by decide +kernel, rfl, by decide +kernel, by decide +kernel⟩
theorem mk_open_faces {P : Program} {w : World} {K : PySem.W.Frag} {mg : Str → Option Value} {base : Heap} {k : Nat} {sp : Sp} (T : Tx K mg) (len : ∀ vs H Q E, sp vs H Q E → vs.length = (["web", "text"] : List Str).length)
    (hbody : ∀ (f : Addr) (cdv : Value) (A : Around) (outer : List Env) (s : Shared) (H : Hp) (vs : List V) (Q : VK) (E : XK), Room k (A.deeper (envOfC "open_faces" (defScope s_open_faces) s.heap.objs.size f cdv)) → sp vs H Q E →
      ∃ t, PSs (cxOf CX0 P w K mg base N_open_faces "open_faces" (defScope s_open_faces) f cdv A outer s H E).nox (defBody s_open_faces) t ∧ t { nx := fun _ H' => Q .non H', rt := Q } (start N_open_faces vs) H) : OkD P w K mg base (k + 1) "open_faces" ["web", "text"] sp :=
  okD_of T (List.mem_of_getElem? (i := 24) rfl) (List.mem_of_getElem? (i := 42) rfl) sc_open_faces len (fun _ _ _ _ _ _ us hl => match us, hl with | [_, _], _ => rfl) hbody
abbrev N_best_shift_of : List Str := ["one", "other", "best", "told", "shift", "key", "left", "right", "many"]
theorem sc_best_shift_of : FnScope N_best_shift_of ["one", "other"] (defScope s_best_shift_of) := ⟨rfl, rfl, rfl, by decide +kernel, rfl, by decide +kernel, by decide +kernel⟩
theorem mk_best_shift_of {P : Program} {w : World} {K : PySem.W.Frag} {mg : Str → Option Value} {base : Heap} {k : Nat} {sp : Sp} (T : Tx K mg) (len : ∀ vs H Q E, sp vs H Q E → vs.length = (["one", "other"] : List Str).length)
    (hbody : ∀ (f : Addr) (cdv : Value) (A : Around) (outer : List Env) (s : Shared) (H : Hp) (vs : List V) (Q : VK) (E : XK), Room k (A.deeper (envOfC "best_shift_of" (defScope s_best_shift_of) s.heap.objs.size f cdv)) → sp vs H Q E →
      ∃ t, PSs (cxOf CX0 P w K mg base N_best_shift_of "best_shift_of" (defScope s_best_shift_of) f cdv A outer s H E).nox (defBody s_best_shift_of) t ∧ t { nx := fun _ H' => Q .non H', rt := Q } (start N_best_shift_of vs) H) : OkD P w K mg base (k + 1) "best_shift_of" ["one", "other"] sp :=
  okD_of T (List.mem_of_getElem? (i := 25) rfl) (List.mem_of_getElem? (i := 43) rfl) sc_best_shift_of len (fun _ _ _ _ _ _ us hl => match us, hl with | [_, _], _ => rfl) hbody
abbrev N_shift_distance : List Str := ["web", "one", "other"]
theorem sc_shift_distance : FnScope N_shift_distance ["web", "one", "other"] (defScope s_shift_distance) := ⟨rfl, rfl, rfl, by decide +kernel, rfl, by decide +kernel, by decide +kernel⟩
theorem mk_shift_distance {P : Program} {w : World} {K : PySem.W.Frag} {mg : Str → Option Value} {base : Heap} {k : Nat} {sp : Sp} (T : Tx K mg) (len : ∀ vs H Q E, sp vs H Q E → vs.length = (["web", "one", "other"] : List Str).length)
    (hbody : ∀ (f : Addr) (cdv : Value) (A : Around) (outer : List Env) (s : Shared) (H : Hp) (vs : List V) (Q : VK) (E : XK), Room k (A.deeper (envOfC "shift_distance" (defScope s_shift_distance) s.heap.objs.size f cdv)) → sp vs H Q E →
      ∃ t, PSs (cxOf CX0 P w K mg base N_shift_distance "shift_distance" (defScope s_shift_distance) f cdv A outer s H E).nox (defBody s_shift_distance) t ∧ t { nx := fun _ H' => Q .non H', rt := Q } (start N_shift_distance vs) H) : OkD P w K mg base (k + 1) "shift_distance" ["web", "one", "other"] sp :=
  okD_of T (List.mem_of_getElem? (i := 26) rfl) (List.mem_of_getElem? (i := 44) rfl) sc_shift_distance len (fun _ _ _ _ _ _ us hl => match us, hl with | [_, _, _], _ => rfl) hbody
abbrev N_best_shift : List Str := ["web", "one", "other"]
theorem sc_best_shift : FnScope N_best_shift ["web", "one", "other"] (defScope s_best_shift) := ⟨rfl, rfl, rfl, by decide +kernel, rfl, by decide +kernel, by decide +kernel⟩
theorem mk_best_shift {P : Program} {w : World} {K : PySem.W.Frag} {mg : Str → Option Value} {base : Heap} {k : Nat} {sp : Sp} (T : Tx K mg) (len : ∀ vs H Q E, sp vs H Q E → vs.length = (["web", "one", "other"] : List Str).length)
    (hbody : ∀ (f : Addr) (cdv : Value) (A : Around) (outer : List Env) (s : Shared) (H : Hp) (vs : List V) (Q : VK) (E : XK), Room k (A.deeper (envOfC "best_shift" (defScope s_best_shift) s.heap.objs.size f cdv)) → sp vs H Q E →
      ∃ t, PSs (cxOf CX0 P w K mg base N_best_shift "best_shift" (defScope s_best_shift) f cdv A outer s H E).nox (defBody s_best_shift) t ∧ t { nx := fun _ H' => Q .non H', rt := Q } (start N_best_shift vs) H) : OkD P w K mg base (k + 1) "best_shift" ["web", "one", "other"] sp :=
  okD_of T (List.mem_of_getElem? (i := 27) rfl) (List.mem_of_getElem? (i := 45) rfl) sc_best_shift len (fun _ _ _ _ _ _ us hl => match us, hl with | [_, _, _], _ => rfl) hbody
abbrev N_fewest_turns : List Str := ["web", "one", "other", "first", "second"]
theorem sc_fewest_turns : FnScope N_fewest_turns ["web", "one", "other"] (defScope s_fewest_turns) := ⟨rfl, rfl, rfl, by decide +kernel, rfl, by decide +kernel, by decide +kernel⟩
theorem mk_fewest_turns {P : Program} {w : World} {K : PySem.W.Frag} {mg : Str → Option Value} {base : Heap} {k : Nat} {sp : Sp} (T : Tx K mg) (len : ∀ vs H Q E, sp vs H Q E → vs.length = (["web", "one", "other"] : List Str).length)
    (hbody : ∀ (f : Addr) (cdv : Value) (A : Around) (outer : List Env) (s : Shared) (H : Hp) (vs : List V) (Q : VK) (E : XK), Room k (A.deeper (envOfC "fewest_turns" (defScope s_fewest_turns) s.heap.objs.size f cdv)) → sp vs H Q E →
      ∃ t, PSs (cxOf CX0 P w K mg base N_fewest_turns "fewest_turns" (defScope s_fewest_turns) f cdv A outer s H E).nox (defBody s_fewest_turns) t ∧ t { nx := fun _ H' => Q .non H', rt := Q } (start N_fewest_turns vs) H) : OkD P w K mg base (k + 1) "fewest_turns" ["web", "one", "other"] sp :=
  okD_of T (List.mem_of_getElem? (i := 28) rfl) (List.mem_of_getElem? (i := 46) rfl) sc_fewest_turns len (fun _ _ _ _ _ _ us hl => match us, hl with | [_, _, _], _ => rfl) hbody
abbrev N_steps_between : List Str := ["one", "other", "height", "more"]
theorem sc_steps_between : FnScope N_steps_between ["one", "other"] (defScope s_steps_between) := ⟨rfl, rfl, rfl, by decide +kernel, rfl, by decide +kernel, by decide +kernel⟩
theorem mk_steps_between {P : Program} {w : World} {K : PySem.W.Frag} {mg : Str → Option Value} {base : Heap} {k : Nat} {sp : Sp} (T : Tx K mg) (len : ∀ vs H Q E, sp vs H Q E → vs.length = (["one", "other"] : List Str).length)
    (hbody : ∀ (f : Addr) (cdv : Value) (A : Around) (outer : List Env) (s : Shared) (H : Hp) (vs : List V) (Q : VK) (E : XK), Room k (A.deeper (envOfC "steps_between" (defScope s_steps_between) s.heap.objs.size f cdv)) → sp vs H Q E →
      ∃ t, PSs (cxOf CX0 P w K mg base N_steps_between "steps_between" (defScope s_steps_between) f cdv A outer s H E).nox (defBody s_steps_between) t ∧ t { nx := fun _ H' => Q .non H', rt := Q } (start N_steps_between vs) H) : OkD P w K mg base (k + 1) "steps_between" ["one", "other"] sp :=
  okD_of T (List.mem_of_getElem? (i := 29) rfl) (List.mem_of_getElem? (i := 47) rfl) sc_steps_between len (fun _ _ _ _ _ _ us hl => match us, hl with | [_, _], _ => rfl) hbody
abbrev N_distance : List Str := ["web", "one", "other"]
theorem sc_distance : FnScope N_distance ["web", "one", "other"] (defScope s_distance) := ⟨rfl, rfl, rfl, by decide +kernel, rfl, by decide +kernel, by decide +kernel⟩
theorem mk_distance {P : Program} {w : World} {K : PySem.W.Frag} {mg : Str → Option Value} {base : Heap} {k : Nat} {sp : Sp} (T : Tx K mg) (len : ∀ vs H Q E, sp vs H Q E → vs.length = (["web", "one", "other"] : List Str).length)
    (hbody : ∀ (f : Addr) (cdv : Value) (A : Around) (outer : List Env) (s : Shared) (H : Hp) (vs : List V) (Q : VK) (E : XK), Room k (A.deeper (envOfC "distance" (defScope s_distance) s.heap.objs.size f cdv)) → sp vs H Q E →
      ∃ t, PSs (cxOf CX0 P w K mg base N_distance "distance" (defScope s_distance) f cdv A outer s H E).nox (defBody s_distance) t ∧ t { nx := fun _ H' => Q .non H', rt := Q } (start N_distance vs) H) : OkD P w K mg base (k + 1) "distance" ["web", "one", "other"] sp :=
  okD_of T (List.mem_of_getElem? (i := 30) rfl) (List.mem_of_getElem? (i := 48) rfl) sc_distance len (fun _ _ _ _ _ _ us hl => match us, hl with | [_, _, _], _ => rfl) hbody
abbrev N__law_taken : List Str := ["_law_row", "_law_many", "_law_found", "_law_cell"]
theorem sc__law_taken : FnScope N__law_taken ["_law_row", "_law_many"] (defScope s__law_taken) := ⟨rfl, rfl, rfl, by decide +kernel, rfl, by decide +kernel, by decide +kernel⟩
theorem mk__law_taken {P : Program} {w : World} {K : PySem.W.Frag} {mg : Str → Option Value} {base : Heap} {k : Nat} {sp : Sp} (T : Tx K mg) (len : ∀ vs H Q E, sp vs H Q E → vs.length = (["_law_row", "_law_many"] : List Str).length)
    (hbody : ∀ (f : Addr) (cdv : Value) (A : Around) (outer : List Env) (s : Shared) (H : Hp) (vs : List V) (Q : VK) (E : XK), Room k (A.deeper (envOfC "_law_taken" (defScope s__law_taken) s.heap.objs.size f cdv)) → sp vs H Q E →
      ∃ t, PSs (cxOf CX0 P w K mg base N__law_taken "_law_taken" (defScope s__law_taken) f cdv A outer s H E).nox (defBody s__law_taken) t ∧ t { nx := fun _ H' => Q .non H', rt := Q } (start N__law_taken vs) H) : OkD P w K mg base (k + 1) "_law_taken" ["_law_row", "_law_many"] sp :=
  okD_of T (List.mem_of_getElem? (i := 31) rfl) (List.mem_of_getElem? (i := 49) rfl) sc__law_taken len (fun _ _ _ _ _ _ us hl => match us, hl with | [_, _], _ => rfl) hbody
abbrev N__law_pick : List Str := ["_law_row", "_law_things"]
theorem sc__law_pick : FnScope N__law_pick ["_law_row", "_law_things"] (defScope s__law_pick) := ⟨rfl, rfl, rfl, by decide +kernel, rfl, by decide +kernel, by decide +kernel⟩
theorem mk__law_pick {P : Program} {w : World} {K : PySem.W.Frag} {mg : Str → Option Value} {base : Heap} {k : Nat} {sp : Sp} (T : Tx K mg) (len : ∀ vs H Q E, sp vs H Q E → vs.length = (["_law_row", "_law_things"] : List Str).length)
    (hbody : ∀ (f : Addr) (cdv : Value) (A : Around) (outer : List Env) (s : Shared) (H : Hp) (vs : List V) (Q : VK) (E : XK), Room k (A.deeper (envOfC "_law_pick" (defScope s__law_pick) s.heap.objs.size f cdv)) → sp vs H Q E →
      ∃ t, PSs (cxOf CX0 P w K mg base N__law_pick "_law_pick" (defScope s__law_pick) f cdv A outer s H E).nox (defBody s__law_pick) t ∧ t { nx := fun _ H' => Q .non H', rt := Q } (start N__law_pick vs) H) : OkD P w K mg base (k + 1) "_law_pick" ["_law_row", "_law_things"] sp :=
  okD_of T (List.mem_of_getElem? (i := 32) rfl) (List.mem_of_getElem? (i := 50) rfl) sc__law_pick len (fun _ _ _ _ _ _ us hl => match us, hl with | [_, _], _ => rfl) hbody
abbrev N__law_alike : List Str := ["_law_found", "_law_due", "_law_k"]
theorem sc__law_alike : FnScope N__law_alike ["_law_found", "_law_due"] (defScope s__law_alike) := ⟨rfl, rfl, rfl, by decide +kernel, rfl, by decide +kernel, by decide +kernel⟩
theorem mk__law_alike {P : Program} {w : World} {K : PySem.W.Frag} {mg : Str → Option Value} {base : Heap} {k : Nat} {sp : Sp} (T : Tx K mg) (len : ∀ vs H Q E, sp vs H Q E → vs.length = (["_law_found", "_law_due"] : List Str).length)
    (hbody : ∀ (f : Addr) (cdv : Value) (A : Around) (outer : List Env) (s : Shared) (H : Hp) (vs : List V) (Q : VK) (E : XK), Room k (A.deeper (envOfC "_law_alike" (defScope s__law_alike) s.heap.objs.size f cdv)) → sp vs H Q E →
      ∃ t, PSs (cxOf CX0 P w K mg base N__law_alike "_law_alike" (defScope s__law_alike) f cdv A outer s H E).nox (defBody s__law_alike) t ∧ t { nx := fun _ H' => Q .non H', rt := Q } (start N__law_alike vs) H) : OkD P w K mg base (k + 1) "_law_alike" ["_law_found", "_law_due"] sp :=
  okD_of T (List.mem_of_getElem? (i := 33) rfl) (List.mem_of_getElem? (i := 51) rfl) sc__law_alike len (fun _ _ _ _ _ _ us hl => match us, hl with | [_, _], _ => rfl) hbody
abbrev N__law_mixed : List Str := ["_law_row", "_law_some", "_law_left", "_law_found", "_law_step"]
theorem sc__law_mixed : FnScope N__law_mixed ["_law_row", "_law_some"] (defScope s__law_mixed) := ⟨rfl, rfl, rfl, by decide +kernel, rfl, by decide +kernel, by decide +kernel⟩
theorem mk__law_mixed {P : Program} {w : World} {K : PySem.W.Frag} {mg : Str → Option Value} {base : Heap} {k : Nat} {sp : Sp} (T : Tx K mg) (len : ∀ vs H Q E, sp vs H Q E → vs.length = (["_law_row", "_law_some"] : List Str).length)
    (hbody : ∀ (f : Addr) (cdv : Value) (A : Around) (outer : List Env) (s : Shared) (H : Hp) (vs : List V) (Q : VK) (E : XK), Room k (A.deeper (envOfC "_law_mixed" (defScope s__law_mixed) s.heap.objs.size f cdv)) → sp vs H Q E →
      ∃ t, PSs (cxOf CX0 P w K mg base N__law_mixed "_law_mixed" (defScope s__law_mixed) f cdv A outer s H E).nox (defBody s__law_mixed) t ∧ t { nx := fun _ H' => Q .non H', rt := Q } (start N__law_mixed vs) H) : OkD P w K mg base (k + 1) "_law_mixed" ["_law_row", "_law_some"] sp :=
  okD_of T (List.mem_of_getElem? (i := 34) rfl) (List.mem_of_getElem? (i := 52) rfl) sc__law_mixed len (fun _ _ _ _ _ _ us hl => match us, hl with | [_, _], _ => rfl) hbody
abbrev N__law_tree : List Str := ["_law_row", "_law_size", "_law_names", "_law_found", "_law_at", "_law_one", "_law_other"]
theorem sc__law_tree : FnScope N__law_tree ["_law_row", "_law_size"] (defScope s__law_tree) := ⟨rfl, rfl, rfl, by decide +kernel, rfl, by decide +kernel, by decide +kernel⟩
theorem mk__law_tree {P : Program} {w : World} {K : PySem.W.Frag} {mg : Str → Option Value} {base : Heap} {k : Nat} {sp : Sp} (T : Tx K mg) (len : ∀ vs H Q E, sp vs H Q E → vs.length = (["_law_row", "_law_size"] : List Str).length)
    (hbody : ∀ (f : Addr) (cdv : Value) (A : Around) (outer : List Env) (s : Shared) (H : Hp) (vs : List V) (Q : VK) (E : XK), Room k (A.deeper (envOfC "_law_tree" (defScope s__law_tree) s.heap.objs.size f cdv)) → sp vs H Q E →
      ∃ t, PSs (cxOf CX0 P w K mg base N__law_tree "_law_tree" (defScope s__law_tree) f cdv A outer s H E).nox (defBody s__law_tree) t ∧ t { nx := fun _ H' => Q .non H', rt := Q } (start N__law_tree vs) H) : OkD P w K mg base (k + 1) "_law_tree" ["_law_row", "_law_size"] sp :=
  okD_of T (List.mem_of_getElem? (i := 35) rfl) (List.mem_of_getElem? (i := 53) rfl) sc__law_tree len (fun _ _ _ _ _ _ us hl => match us, hl with | [_, _], _ => rfl) hbody
abbrev N__law_web : List Str := ["_law_row", "_law_most", "_law_size", "_law_hedges", "_law_told", "_law_web_here", "_law_step", "_law_one", "_law_other"]
theorem sc__law_web : FnScope N__law_web ["_law_row", "_law_most"] (defScope s__law_web) := ⟨rfl, rfl, rfl, by decide +kernel, rfl, by decide +kernel, by decide +kernel⟩
theorem mk__law_web {P : Program} {w : World} {K : PySem.W.Frag} {mg : Str → Option Value} {base : Heap} {k : Nat} {sp : Sp} (T : Tx K mg) (len : ∀ vs H Q E, sp vs H Q E → vs.length = (["_law_row", "_law_most"] : List Str).length)
    (hbody : ∀ (f : Addr) (cdv : Value) (A : Around) (outer : List Env) (s : Shared) (H : Hp) (vs : List V) (Q : VK) (E : XK), Room k (A.deeper (envOfC "_law_web" (defScope s__law_web) s.heap.objs.size f cdv)) → sp vs H Q E →
      ∃ t, PSs (cxOf CX0 P w K mg base N__law_web "_law_web" (defScope s__law_web) f cdv A outer s H E).nox (defBody s__law_web) t ∧ t { nx := fun _ H' => Q .non H', rt := Q } (start N__law_web vs) H) : OkD P w K mg base (k + 1) "_law_web" ["_law_row", "_law_most"] sp :=
  okD_of T (List.mem_of_getElem? (i := 36) rfl) (List.mem_of_getElem? (i := 54) rfl) sc__law_web len (fun _ _ _ _ _ _ us hl => match us, hl with | [_, _], _ => rfl) hbody
abbrev N__law_nears : List Str := ["_law_web_here", "_law_found", "_law_one", "_law_other", "_law_field", "_law_told"]
theorem sc__law_nears : FnScope N__law_nears ["_law_web_here"] (defScope s__law_nears) := ⟨rfl, rfl, rfl, by decide +kernel, rfl, by decide +kernel, by decide +kernel⟩
theorem mk__law_nears {P : Program} {w : World} {K : PySem.W.Frag} {mg : Str → Option Value} {base : Heap} {k : Nat} {sp : Sp} (T : Tx K mg) (len : ∀ vs H Q E, sp vs H Q E → vs.length = (["_law_web_here"] : List Str).length)
    (hbody : ∀ (f : Addr) (cdv : Value) (A : Around) (outer : List Env) (s : Shared) (H : Hp) (vs : List V) (Q : VK) (E : XK), Room k (A.deeper (envOfC "_law_nears" (defScope s__law_nears) s.heap.objs.size f cdv)) → sp vs H Q E →
      ∃ t, PSs (cxOf CX0 P w K mg base N__law_nears "_law_nears" (defScope s__law_nears) f cdv A outer s H E).nox (defBody s__law_nears) t ∧ t { nx := fun _ H' => Q .non H', rt := Q } (start N__law_nears vs) H) : OkD P w K mg base (k + 1) "_law_nears" ["_law_web_here"] sp :=
  okD_of T (List.mem_of_getElem? (i := 37) rfl) (List.mem_of_getElem? (i := 55) rfl) sc__law_nears len (fun _ _ _ _ _ _ us hl => match us, hl with | [_], _ => rfl) hbody
abbrev N__law_far : List Str := ["_law_web_here", "_law_first", "_law_nears_here", "_law_found", "_law_rim", "_law_many", "_law_later", "_law_here", "_law_near"]
theorem sc__law_far : FnScope N__law_far ["_law_web_here", "_law_first"] (defScope s__law_far) := ⟨rfl, rfl, rfl, by decide +kernel, rfl, by decide +kernel, by decide +kernel⟩
theorem mk__law_far {P : Program} {w : World} {K : PySem.W.Frag} {mg : Str → Option Value} {base : Heap} {k : Nat} {sp : Sp} (T : Tx K mg) (len : ∀ vs H Q E, sp vs H Q E → vs.length = (["_law_web_here", "_law_first"] : List Str).length)
    (hbody : ∀ (f : Addr) (cdv : Value) (A : Around) (outer : List Env) (s : Shared) (H : Hp) (vs : List V) (Q : VK) (E : XK), Room k (A.deeper (envOfC "_law_far" (defScope s__law_far) s.heap.objs.size f cdv)) → sp vs H Q E →
      ∃ t, PSs (cxOf CX0 P w K mg base N__law_far "_law_far" (defScope s__law_far) f cdv A outer s H E).nox (defBody s__law_far) t ∧ t { nx := fun _ H' => Q .non H', rt := Q } (start N__law_far vs) H) : OkD P w K mg base (k + 1) "_law_far" ["_law_web_here", "_law_first"] sp :=
  okD_of T (List.mem_of_getElem? (i := 38) rfl) (List.mem_of_getElem? (i := 56) rfl) sc__law_far len (fun _ _ _ _ _ _ us hl => match us, hl with | [_, _], _ => rfl) hbody
abbrev N__law_laying : List Str := ["_law_row", "_law_web_here", "_law_height", "_law_told", "_law_kind", "_law_found", "_law_step", "_law_field", "_law_here", "_law_away", "_law_some", "_law_laying_here", "_law_many", "_law_one", "_law_other"]
theorem sc__law_laying : FnScope N__law_laying ["_law_row", "_law_web_here", "_law_height"] (defScope s__law_laying) := ⟨rfl, rfl, rfl, by decide +kernel, rfl, by decide +kernel, by decide +kernel⟩
theorem mk__law_laying {P : Program} {w : World} {K : PySem.W.Frag} {mg : Str → Option Value} {base : Heap} {k : Nat} {sp : Sp} (T : Tx K mg) (len : ∀ vs H Q E, sp vs H Q E → vs.length = (["_law_row", "_law_web_here", "_law_height"] : List Str).length)
    (hbody : ∀ (f : Addr) (cdv : Value) (A : Around) (outer : List Env) (s : Shared) (H : Hp) (vs : List V) (Q : VK) (E : XK), Room k (A.deeper (envOfC "_law_laying" (defScope s__law_laying) s.heap.objs.size f cdv)) → sp vs H Q E →
      ∃ t, PSs (cxOf CX0 P w K mg base N__law_laying "_law_laying" (defScope s__law_laying) f cdv A outer s H E).nox (defBody s__law_laying) t ∧ t { nx := fun _ H' => Q .non H', rt := Q } (start N__law_laying vs) H) : OkD P w K mg base (k + 1) "_law_laying" ["_law_row", "_law_web_here", "_law_height"] sp :=
  okD_of T (List.mem_of_getElem? (i := 39) rfl) (List.mem_of_getElem? (i := 57) rfl) sc__law_laying len (fun _ _ _ _ _ _ us hl => match us, hl with | [_, _, _], _ => rfl) hbody
abbrev N__law_lows : List Str := ["_law_web_here", "_law_laying_here", "_law_nears_here", "_law_field", "_law_near"]
theorem sc__law_lows : FnScope N__law_lows ["_law_web_here", "_law_laying_here"] (defScope s__law_lows) := ⟨rfl, rfl, rfl, by decide +kernel, rfl, by decide +kernel, by decide +kernel⟩
theorem mk__law_lows {P : Program} {w : World} {K : PySem.W.Frag} {mg : Str → Option Value} {base : Heap} {k : Nat} {sp : Sp} (T : Tx K mg) (len : ∀ vs H Q E, sp vs H Q E → vs.length = (["_law_web_here", "_law_laying_here"] : List Str).length)
    (hbody : ∀ (f : Addr) (cdv : Value) (A : Around) (outer : List Env) (s : Shared) (H : Hp) (vs : List V) (Q : VK) (E : XK), Room k (A.deeper (envOfC "_law_lows" (defScope s__law_lows) s.heap.objs.size f cdv)) → sp vs H Q E →
      ∃ t, PSs (cxOf CX0 P w K mg base N__law_lows "_law_lows" (defScope s__law_lows) f cdv A outer s H E).nox (defBody s__law_lows) t ∧ t { nx := fun _ H' => Q .non H', rt := Q } (start N__law_lows vs) H) : OkD P w K mg base (k + 1) "_law_lows" ["_law_web_here", "_law_laying_here"] sp :=
  okD_of T (List.mem_of_getElem? (i := 40) rfl) (List.mem_of_getElem? (i := 58) rfl) sc__law_lows len (fun _ _ _ _ _ _ us hl => match us, hl with | [_, _], _ => rfl) hbody
abbrev N__law_highs : List Str := ["_law_web_here", "_law_laying_here", "_law_nears_here", "_law_field", "_law_near"]
theorem sc__law_highs : FnScope N__law_highs ["_law_web_here", "_law_laying_here"] (defScope s__law_highs) := ⟨rfl, rfl, rfl, by decide +kernel, rfl, by decide +kernel, by decide +kernel⟩
theorem mk__law_highs {P : Program} {w : World} {K : PySem.W.Frag} {mg : Str → Option Value} {base : Heap} {k : Nat} {sp : Sp} (T : Tx K mg) (len : ∀ vs H Q E, sp vs H Q E → vs.length = (["_law_web_here", "_law_laying_here"] : List Str).length)
    (hbody : ∀ (f : Addr) (cdv : Value) (A : Around) (outer : List Env) (s : Shared) (H : Hp) (vs : List V) (Q : VK) (E : XK), Room k (A.deeper (envOfC "_law_highs" (defScope s__law_highs) s.heap.objs.size f cdv)) → sp vs H Q E →
      ∃ t, PSs (cxOf CX0 P w K mg base N__law_highs "_law_highs" (defScope s__law_highs) f cdv A outer s H E).nox (defBody s__law_highs) t ∧ t { nx := fun _ H' => Q .non H', rt := Q } (start N__law_highs vs) H) : OkD P w K mg base (k + 1) "_law_highs" ["_law_web_here", "_law_laying_here"] sp :=
  okD_of T (List.mem_of_getElem? (i := 41) rfl) (List.mem_of_getElem? (i := 59) rfl) sc__law_highs len (fun _ _ _ _ _ _ us hl => match us, hl with | [_, _], _ => rfl) hbody
abbrev N__law_changed : List Str := ["_law_laying_here", "_law_field", "_law_by"]
theorem sc__law_changed : FnScope N__law_changed ["_law_laying_here", "_law_field", "_law_by"] (defScope s__law_changed) := ⟨rfl, rfl, rfl, by decide +kernel, rfl, by decide +kernel, by decide +kernel⟩
theorem mk__law_changed {P : Program} {w : World} {K : PySem.W.Frag} {mg : Str → Option Value} {base : Heap} {k : Nat} {sp : Sp} (T : Tx K mg) (len : ∀ vs H Q E, sp vs H Q E → vs.length = (["_law_laying_here", "_law_field", "_law_by"] : List Str).length)
    (hbody : ∀ (f : Addr) (cdv : Value) (A : Around) (outer : List Env) (s : Shared) (H : Hp) (vs : List V) (Q : VK) (E : XK), Room k (A.deeper (envOfC "_law_changed" (defScope s__law_changed) s.heap.objs.size f cdv)) → sp vs H Q E →
      ∃ t, PSs (cxOf CX0 P w K mg base N__law_changed "_law_changed" (defScope s__law_changed) f cdv A outer s H E).nox (defBody s__law_changed) t ∧ t { nx := fun _ H' => Q .non H', rt := Q } (start N__law_changed vs) H) : OkD P w K mg base (k + 1) "_law_changed" ["_law_laying_here", "_law_field", "_law_by"] sp :=
  okD_of T (List.mem_of_getElem? (i := 42) rfl) (List.mem_of_getElem? (i := 60) rfl) sc__law_changed len (fun _ _ _ _ _ _ us hl => match us, hl with | [_, _, _], _ => rfl) hbody
abbrev N__law_next : List Str := ["_law_web_here", "_law_laying_here", "_law_found", "_law_field"]
theorem sc__law_next : FnScope N__law_next ["_law_web_here", "_law_laying_here"] (defScope s__law_next) := ⟨rfl, rfl, rfl, by decide +kernel, rfl, by decide +kernel, by decide +kernel⟩
theorem mk__law_next {P : Program} {w : World} {K : PySem.W.Frag} {mg : Str → Option Value} {base : Heap} {k : Nat} {sp : Sp} (T : Tx K mg) (len : ∀ vs H Q E, sp vs H Q E → vs.length = (["_law_web_here", "_law_laying_here"] : List Str).length)
    (hbody : ∀ (f : Addr) (cdv : Value) (A : Around) (outer : List Env) (s : Shared) (H : Hp) (vs : List V) (Q : VK) (E : XK), Room k (A.deeper (envOfC "_law_next" (defScope s__law_next) s.heap.objs.size f cdv)) → sp vs H Q E →
      ∃ t, PSs (cxOf CX0 P w K mg base N__law_next "_law_next" (defScope s__law_next) f cdv A outer s H E).nox (defBody s__law_next) t ∧ t { nx := fun _ H' => Q .non H', rt := Q } (start N__law_next vs) H) : OkD P w K mg base (k + 1) "_law_next" ["_law_web_here", "_law_laying_here"] sp :=
  okD_of T (List.mem_of_getElem? (i := 43) rfl) (List.mem_of_getElem? (i := 61) rfl) sc__law_next len (fun _ _ _ _ _ _ us hl => match us, hl with | [_, _], _ => rfl) hbody
abbrev N__law_all : List Str := ["_law_web_here", "_law_field", "_law_height", "_law_nears_here", "_law_order", "_law_found", "_law_here", "_law_longer", "_law_told", "_law_some", "_law_value", "_law_more", "_law_away", "_law_near", "_law_one"]
theorem sc__law_all : FnScope N__law_all ["_law_web_here", "_law_field", "_law_height"] (defScope s__law_all) := ⟨rfl, rfl, rfl, by decide +kernel, rfl, by decide +kernel, by decide +kernel⟩
theorem mk__law_all {P : Program} {w : World} {K : PySem.W.Frag} {mg : Str → Option Value} {base : Heap} {k : Nat} {sp : Sp} (T : Tx K mg) (len : ∀ vs H Q E, sp vs H Q E → vs.length = (["_law_web_here", "_law_field", "_law_height"] : List Str).length)
    (hbody : ∀ (f : Addr) (cdv : Value) (A : Around) (outer : List Env) (s : Shared) (H : Hp) (vs : List V) (Q : VK) (E : XK), Room k (A.deeper (envOfC "_law_all" (defScope s__law_all) s.heap.objs.size f cdv)) → sp vs H Q E →
      ∃ t, PSs (cxOf CX0 P w K mg base N__law_all "_law_all" (defScope s__law_all) f cdv A outer s H E).nox (defBody s__law_all) t ∧ t { nx := fun _ H' => Q .non H', rt := Q } (start N__law_all vs) H) : OkD P w K mg base (k + 1) "_law_all" ["_law_web_here", "_law_field", "_law_height"] sp :=
  okD_of T (List.mem_of_getElem? (i := 44) rfl) (List.mem_of_getElem? (i := 62) rfl) sc__law_all len (fun _ _ _ _ _ _ us hl => match us, hl with | [_, _, _], _ => rfl) hbody
abbrev N__law_apart : List Str := ["_law_one", "_law_other", "_law_height", "_law_more"]
theorem sc__law_apart : FnScope N__law_apart ["_law_one", "_law_other"] (defScope s__law_apart) := ⟨rfl, rfl, rfl, by decide +kernel, rfl, by decide +kernel, by decide +kernel⟩
theorem mk__law_apart {P : Program} {w : World} {K : PySem.W.Frag} {mg : Str → Option Value} {base : Heap} {k : Nat} {sp : Sp} (T : Tx K mg) (len : ∀ vs H Q E, sp vs H Q E → vs.length = (["_law_one", "_law_other"] : List Str).length)
    (hbody : ∀ (f : Addr) (cdv : Value) (A : Around) (outer : List Env) (s : Shared) (H : Hp) (vs : List V) (Q : VK) (E : XK), Room k (A.deeper (envOfC "_law_apart" (defScope s__law_apart) s.heap.objs.size f cdv)) → sp vs H Q E →
      ∃ t, PSs (cxOf CX0 P w K mg base N__law_apart "_law_apart" (defScope s__law_apart) f cdv A outer s H E).nox (defBody s__law_apart) t ∧ t { nx := fun _ H' => Q .non H', rt := Q } (start N__law_apart vs) H) : OkD P w K mg base (k + 1) "_law_apart" ["_law_one", "_law_other"] sp :=
  okD_of T (List.mem_of_getElem? (i := 45) rfl) (List.mem_of_getElem? (i := 63) rfl) sc__law_apart len (fun _ _ _ _ _ _ us hl => match us, hl with | [_, _], _ => rfl) hbody
abbrev N_law : List Str := ["_law_script", "_law_row", "_law_web_here", "_law_one", "_law_other", "_law_start", "_law_goal", "_law_found", "_law_rim", "_law_many", "_law_later", "_law_here", "_law_field", "_law_there", "_law_steps", "_law_shift", "_law_best", "_law_height"]
theorem sc_law : FnScope N_law ["_law_script"] (defScope s_law) := ⟨rfl, rfl, rfl, by decide +kernel, rfl, by decide +kernel, by decide +kernel⟩
theorem mk_law {P : Program} {w : World} {K : PySem.W.Frag} {mg : Str → Option Value} {base : Heap} {k : Nat} {sp : Sp} (T : Tx K mg) (len : ∀ vs H Q E, sp vs H Q E → vs.length = (["_law_script"] : List Str).length)
    (hbody : ∀ (f : Addr) (cdv : Value) (A : Around) (outer : List Env) (s : Shared) (H : Hp) (vs : List V) (Q : VK) (E : XK), Room k (A.deeper (envOfC "law" (defScope s_law) s.heap.objs.size f cdv)) → sp vs H Q E →
      ∃ t, PSs (cxOf CX0 P w K mg base N_law "law" (defScope s_law) f cdv A outer s H E).nox (defBody s_law) t ∧ t { nx := fun _ H' => Q .non H', rt := Q } (start N_law vs) H) : OkD P w K mg base (k + 1) "law" ["_law_script"] sp :=
  okD_of T (List.mem_of_getElem? (i := 46) rfl) (List.mem_of_getElem? (i := 64) rfl) sc_law len (fun _ _ _ _ _ _ us hl => match us, hl with | [_], _ => rfl) hbody
end Tr
end
section
set_option Elab.async false
set_option linter.all false
set_option maxRecDepth 100000
set_option maxHeartbeats 4000000
/-! Growth of a heap with a stable part S; what an expression gives, by growth; loops and comprehensions by turns; data in the heap. -/
namespace Tr
open PySem PySem.Spec PyProof.Rows L2 Evl
/-! ### growth -/
/-- from (S, H) to (S', H'): all of S, and all of H but what stands at M, is kept; what S' knows more is new in H -/
structure Gr (M : List Addr) (S H S' H' : Hp) : Prop where
  s : Ex S S'
  i : Ex S' H'
  h : ∀ b o, b ∉ M → H b = some o → H' b = some o
  f : ∀ b, S b = none → H b ≠ none → S' b = none
  d : ∀ b, H b ≠ none → H' b ≠ none
namespace Gr
variable {M : List Addr} {S H S1 H1 S2 H2 : Hp} {p : Addr} {o u : HO}
theorem refl (e : Ex S H) : Gr M S H S H := ⟨Ex.refl S, e, fun _ _ _ h => h, fun _ h _ => h, fun _ h => h⟩
theorem trans (a : Gr M S H S1 H1) (b : Gr M S1 H1 S2 H2) : Gr M S H S2 H2 :=
  ⟨a.s.trans b.s, b.i, fun c o hc h => b.h c o hc (a.h c o hc h), fun c h hn => b.f c (a.f c h hn) (a.d c hn), fun c h => b.d c (a.d c h)⟩
theorem of_ex (e : Ex S H) (x : Ex H H1) : Gr M S H S H1 := ⟨Ex.refl S, e.trans x, fun b o _ h => x b o h, fun _ h _ => h, fun b h => by
  cases q : H b with
  | none => exact absurd q h
  | some o => rw [x b o q]; simp⟩
theorem ex (a : Gr [] S H S1 H1) : Ex H H1 := fun b o h => a.h b o (by simp) h
theorem more {M' : List Addr} (a : Gr M S H S1 H1) (hm : ∀ b ∈ M, b ∈ M') : Gr M' S H S1 H1 := ⟨a.s, a.i, fun b o hb h => a.h b o (fun z => hb (hm b z)) h, a.f, a.d⟩
theorem any (a : Gr [] S H S1 H1) : Gr M S H S1 H1 := a.more (by simp)
/-- a new object, known from now on -/
theorem new (e : Ex S H) (hp : H p = none) : Gr M S H (upd S p o) (upd H p o) := by
  have hs : S p = none := fresh_back e hp
  refine ⟨Ex.new hs, fun b u h => ?_, fun b u _ h => Ex.new hp b u h, fun b h hn => ?_, fun b h => ?_⟩
  · by_cases hb : b = p
    · subst hb; rw [upd_same] at h ⊢; exact h
    · rw [upd_ne hb] at h ⊢; exact e b u h
  · have hb : b ≠ p := fun z => hn (by rw [z]; exact hp)
    rw [upd_ne hb]; exact h
  · by_cases hb : b = p
    · subst hb; rw [upd_same]; simp
    · rw [upd_ne hb]; exact h
/-- a new object that will change -/
theorem lay (e : Ex S H) (hp : H p = none) : Gr M S H S (upd H p o) := of_ex e (Ex.new hp)
/-- an object that was new behind (S, H) changes -/
theorem put (a : Gr M S H S1 H1) (hp : H p = none ∨ p ∈ M) (hs : S1 p = none) : Gr M S H S1 (upd H1 p u) := by
  refine ⟨a.s, fun b o h => ?_, fun b o hb h => ?_, a.f, fun b h => ?_⟩
  · rw [upd_ne (ne_of_none h hs)]; exact a.i b o h
  · have hb' : b ≠ p := fun z => by
      rcases hp with q | q
      · rw [z, q] at h; cases h
      · exact hb (z ▸ q)
    rw [upd_ne hb']; exact a.h b o hb h
  · by_cases hb : b = p
    · subst hb; rw [upd_same]; simp
    · rw [upd_ne hb]; exact a.d b h
/-- it is known from now on -/
theorem fix (a : Gr M S H S1 H1) (hp : H p = none) (h1 : H1 p = some u) : Gr M S H (upd S1 p u) H1 := by
  by_cases q : S1 p = none
  · refine ⟨a.s.trans (Ex.new q), fun b o h => ?_, a.h, fun b h hn => ?_, a.d⟩
    · by_cases hb : b = p
      · subst hb; rw [upd_same] at h; rw [h1, ← h]
      · rw [upd_ne hb] at h; exact a.i b o h
    · have hb : b ≠ p := fun z => hn (by rw [z]; exact hp)
      rw [upd_ne hb]; exact a.f b h hn
  · obtain ⟨o, ho⟩ := Option.ne_none_iff_exists'.mp q
    have e : o = u := by
      have := a.i p o ho
      rw [h1] at this; exact (Option.some.inj this).symm
    have e2 : upd S1 p u = S1 := by
      funext b
      by_cases hb : b = p
      · subst hb; rw [upd_same, ho, e]
      · rw [upd_ne hb]
    rw [e2]; exact a
/-- all that is new is known -/
def all (S H H1 : Hp) : Hp := fun b => match H b with
  | none => H1 b
  | some _ => S b
theorem all_new (h : H p = none) : all S H H1 p = H1 p := by unfold all; rw [h]
theorem all_old (h : H p ≠ none) : all S H H1 p = S p := by
  obtain ⟨o, ho⟩ := Option.ne_none_iff_exists'.mp h
  unfold all; rw [ho]
theorem close (e : Ex S H) (a : Gr M S H S1 H1) : Gr M S H (all S H H1) H1 := by
  have key : ∀ b, H b ≠ none → all S H H1 b = S b := fun b h => all_old h
  refine ⟨fun b o h => ?_, fun b o h => ?_, a.h, fun b h hn => by rw [key b hn]; exact h, a.d⟩
  · rw [key b (by rw [e b o h]; simp)]; exact h
  · by_cases q : H b = none
    · rw [all_new q] at h; exact h
    · rw [key b q] at h; exact a.i b o (a.s b o h)
theorem all_ex (e : Ex S H) (a : Gr M S H S1 H1) : Ex S1 (all S H H1) := fun b o h => by
  by_cases q : H b = none
  · rw [all_new q]; exact a.i b o h
  · rw [all_old q]
    cases r : S b with
    | none => rw [a.f b r q] at h; cases h
    | some u => rw [a.s b u r] at h; exact h
theorem fr (a : Gr M S H S1 H1) (e : Ex S H) (h : H1 p = none) : H p = none := by
  cases q : H p with
  | none => rfl
  | some o => exact absurd h (a.d p (by rw [q]; simp))
theorem frS (a : Gr M S H S1 H1) (h : H1 p = none) : S1 p = none := fresh_back a.i h
end Gr
/-! ### what an expression gives -/
def EvG (te : TE) (σ : L2.St) (S : Hp) (P : V → Hp → Prop) : Prop := ∀ H, Ex S H → ∀ Q : VK, (∀ v S1 H1, Gr [] S H S1 H1 → P v S1 → Q v H1) → te σ H Q
def SpG (sp : Sp) (vs : List V) (S : Hp) (P : V → Hp → Prop) : Prop := ∀ H, Ex S H → ∀ (Q : VK) (E : XK), (∀ v S1 H1, Gr [] S H S1 H1 → P v S1 → Q v H1) → sp vs H Q E
/-- a promise's end -/
def RetG (S H : Hp) (P : V → Hp → Prop) (Q : VK) : Prop := ∀ v S1 H1, Gr [] S H S1 H1 → P v S1 → Q v H1
def TtG (t : TT) (σ : L2.St) (S : Hp) (b : Bool) : Prop := EvT t σ S b
section
variable {K : PySem.W.Frag} {σ : L2.St} {S H : Hp} {ta tb te : TE} {t : TT} {x y v : V} {P P' : V → Hp → Prop} {D : Ends} {tu tz : TS}
theorem EvG.of (h : Ev te σ S v) (hp : ∀ S', Ex S S' → P v S') : EvG te σ S P := fun H e Q q => h H e Q fun H1 e1 => q v S H1 (Gr.of_ex e e1) (hp S (Ex.refl S))
theorem EvG.ev (h : EvG te σ S fun w _ => w = v) : Ev te σ S v := fun H e Q q => h H e Q fun w S1 H1 g hw => by
  subst hw
  exact q H1 g.ex
theorem EvG.imp (h : EvG te σ S P) (hp : ∀ v S', Ex S S' → P v S' → P' v S') : EvG te σ S P' := fun H e Q q => h H e Q fun v S1 H1 g p => q v S1 H1 g (hp v S1 g.s p)
theorem EvG.ofL {xs : List V} (h : EvL te σ S xs) (hp : ∀ p S', Ex S S' → S' p = some (.lst xs) → P (.ref p) S') : EvG te σ S P := fun H e Q q => h H e Q fun p H1 hn e1 h1 =>
  q (.ref p) (upd S p (.lst xs)) H1 ((Gr.of_ex e e1).fix hn h1) (hp p _ (Ex.new (fresh_back e hn)) upd_same)
theorem EvG.ofU {xs : List V} (h : EvU te σ S xs) (hp : ∀ p S', Ex S S' → S' p = some (.tup xs) → P (.ref p) S') : EvG te σ S P := fun H e Q q => h H e Q fun p H1 hn e1 h1 =>
  q (.ref p) (upd S p (.tup xs)) H1 ((Gr.of_ex e e1).fix hn h1) (hp p _ (Ex.new (fresh_back e hn)) upd_same)
/-- then another one: P persists where it is used -/
theorem EvG.mono {S' : Hp} (e : Ex S S') (h : EvG te σ S P) (hp : ∀ v A B, Ex A B → P v A → P v B) : EvG te σ S' P := fun H eH Q q => h H (e.trans eH) Q fun v S1 H1 g p => by
  refine q v (Gr.all S' H H1) H1 (Gr.close eH (Gr.of_ex eH g.ex)) (hp v S1 _ (fun b o hb => ?_) p)
  by_cases z : H b = none
  · rw [Gr.all_new z]; exact g.i b o hb
  · rw [Gr.all_old z]
    cases r : S b with
    | none => rw [g.f b r z] at hb; cases hb
    | some u =>
      have e2 : o = u := by rw [g.s b u r] at hb; exact (Option.some.inj hb).symm
      rw [e2]; exact e b u r
theorem eg_call {sp : Sp} {vs : List V} {E : XK} {ta : TA} (h : EvA ta σ S vs) (hs : SpG sp (vs ++ []) S P) : EvG (tCall sp [] E ta) σ S P := fun H e Q q =>
  h H e _ fun H1 e1 => hs H1 (e.trans e1) Q E fun v S2 H2 g p => q v S2 H2 ((Gr.of_ex e e1).trans g) p
theorem s_retG (h : EvG te σ S P) (e : Ex S H) (k : ∀ v S1 H1, Gr [] S H S1 H1 → P v S1 → D.rt v H1) : tRet te D σ H := h H e _ k
theorem s_asgG {i : Nat} (h : EvG te σ S P) (e : Ex S H) (k : ∀ v S1 H1, Gr [] S H S1 H1 → P v S1 → D.nx (σ.set i (some v)) H1) : tAsg te (gName i) D σ H := h H e _ k
theorem q_asgG {i : Nat} (h : EvG te σ S P) (e : Ex S H) (k : ∀ v S1 H1, Gr [] S H S1 H1 → P v S1 → tz D (σ.set i (some v)) H1) : tSeq (tAsg te (gName i)) tz D σ H := h H e _ k
theorem ev_chain {r r' : R2} {z : V} {a b : Bool} (ha : Ev ta σ S x) (hb : Ev tb σ S y) (hc : Ev te σ S z) (h1 : RV r x y S (.bl a)) (h2 : a = true → RV r' y z S (.bl b)) : Ev (tChain r r' ta tb te) σ S (.bl (a && b)) := fun H e Q q =>
  ha H e _ fun H1 e1 => hb H1 (e.trans e1) _ fun H2 e2 => h1 H2 ((e.trans e1).trans e2) _ fun H3 e3 => ⟨a, rfl, by
    cases a with
    | false => exact q H3 ((e1.trans e2).trans e3)
    | true =>
      show te σ H3 _
      exact hc H3 (((e.trans e1).trans e2).trans e3) _ fun H4 e4 => h2 rfl H4 ((((e.trans e1).trans e2).trans e3).trans e4) Q fun H5 e5 => q H5 ((((e1.trans e2).trans e3).trans e4).trans e5)⟩
/-- a one-argument built-in on something made -/
theorem ev_cbG {r : List V → Hp → VK → Prop} (h : EvG te σ S P) (hr : ∀ v S1, Ex S S1 → P v S1 → RC r [v] S1 y) : Ev (tCB r (tCons te tNil)) σ S y := fun H e Q q =>
  h H e _ fun v S1 H1 g p => hr v S1 g.s p H1 g.i Q fun H2 e2 => q H2 (g.ex.trans e2)
end
/-! ### turns: what a for, a comprehension goes over -/
/-- n turns from the heap H, S its stable part; the target's store at turn i turns the slots by u i -/
def TurnsAt (wi : TI) (g : TG) (σ : L2.St) (S H : Hp) (n : Nat) (u : Nat → L2.St → L2.St) : Prop :=
  ∀ R : It → Hp → Prop, (∀ (J : It) (G : Hp → Prop) (S1 H1 : Hp), Gr [] S H S1 H1 → (∀ H', Ex S1 H' → G H') → (∀ i H', i < n → G H' → J.go i H') → (∀ H', G H' → J.stop n H') →
    (∀ i H' x H'' (σ' : L2.St) (Q : L2.St → Hp → Prop), i < n → G H' → J.yld i H' x H'' → (∀ H3, Ex H' H3 → Q (u i σ') H3) → g x σ' H'' Q) → R J H1) → wi σ H R
def Turns (wi : TI) (g : TG) (σ : L2.St) (S : Hp) (n : Nat) (u : Nat → L2.St → L2.St) : Prop := ∀ H, Ex S H → TurnsAt wi g σ S H n u
section
variable {K : PySem.W.Frag} {σ : L2.St} {S H : Hp} {tl te : TE} {g : TG} {n : Nat} {u : Nat → L2.St → L2.St} {wi : TI}
theorem turns_list {a : Addr} {xs : List V} (h : Ev tl σ S (.ref a)) (hx : SqL K S a xs) (hu : ∀ i x (H : Hp) (σ' : L2.St) (Q : L2.St → Hp → Prop), xs[i]? = some x → Ex S H → (∀ H3, Ex H H3 → Q (u i σ') H3) → g x σ' H Q) : Turns (iList K tl) g σ S xs.length u := fun H e R r =>
  h H e _ fun H1 e1 => ⟨a, rfl, ⟨xs, ex_l (e.trans e1) hx⟩, r (Itl K a) (fun H' => SqL K H' a xs ∧ Ex S H') S H1 (Gr.of_ex e e1) (fun H' q => ⟨ex_l q hx, q⟩) (fun i H' hi q => walk_list.goes i H' hi q.1) (fun H' q => walk_list.stops H' q.1)
    fun i H' x H'' σ' Q hi q y k => by
      obtain ⟨e2, e3⟩ := walk_list.yields i H' x H'' hi q.1 y
      subst e2
      exact hu i x H'' σ' Q e3 q.2 k⟩
/-- over a list of the stable part, found by what stands in the heap now -/
theorem turns_listAt {a : Addr} {xs : List V} (h : Ev tl σ H (.ref a)) (e : Ex S H) (hx : SqL K S a xs) (hu : ∀ i x (H : Hp) (σ' : L2.St) (Q : L2.St → Hp → Prop), xs[i]? = some x → Ex S H → (∀ H3, Ex H H3 → Q (u i σ') H3) → g x σ' H Q) : TurnsAt (iList K tl) g σ S H xs.length u := fun R r =>
  h H (Ex.refl H) _ fun H1 e1 => ⟨a, rfl, ⟨xs, ex_l (e.trans e1) hx⟩, r (Itl K a) (fun H' => SqL K H' a xs ∧ Ex S H') S H1 (Gr.of_ex e e1) (fun H' q => ⟨ex_l q hx, q⟩) (fun i H' hi q => walk_list.goes i H' hi q.1) (fun H' q => walk_list.stops H' q.1)
    fun i H' x H'' σ' Q hi q y k => by
      obtain ⟨e2, e3⟩ := walk_list.yields i H' x H'' hi q.1 y
      subst e2
      exact hu i x H'' σ' Q e3 q.2 k⟩
/-- over a list that is made on the spot -/
theorem turns_new {P : V → Hp → Prop} {m : Nat} (h : EvG tl σ S P) (hx : ∀ v S1, Ex S S1 → P v S1 → ∃ a xs, v = .ref a ∧ SqL K S1 a xs ∧ xs.length = m ∧ ∀ i x (H : Hp) (σ' : L2.St) (Q : L2.St → Hp → Prop), xs[i]? = some x → Ex S1 H → (∀ H3, Ex H H3 → Q (u i σ') H3) → g x σ' H Q) : Turns (iList K tl) g σ S m u := fun H e R r =>
  h H e _ fun v S1 H1 gr p => by
    obtain ⟨a, xs, rfl, hq, hm, hu⟩ := hx v S1 gr.s p
    subst hm
    exact ⟨a, rfl, ⟨xs, ex_l gr.i hq⟩, r (Itl K a) (fun H' => SqL K H' a xs ∧ Ex S1 H') S1 H1 gr (fun H' q => ⟨ex_l q hq, q⟩) (fun i H' hi q => walk_list.goes i H' hi q.1) (fun H' q => walk_list.stops H' q.1)
      fun i H' x H'' σ' Q hi q y k => by
        obtain ⟨e2, e3⟩ := walk_list.yields i H' x H'' hi q.1 y
        subst e2
        exact hu i x H'' σ' Q e3 q.2 k⟩
theorem turns_tup {a : Addr} {xs : List V} (h : Ev tl σ S (.ref a)) (hx : SqT K S a xs) (hu : ∀ i x (H : Hp) (σ' : L2.St) (Q : L2.St → Hp → Prop), xs[i]? = some x → Ex S H → (∀ H3, Ex H H3 → Q (u i σ') H3) → g x σ' H Q) : Turns (iTup K tl) g σ S xs.length u := fun H e R r =>
  h H e _ fun H1 e1 => ⟨a, rfl, ⟨xs, ex_t (e.trans e1) hx⟩, r (Itt K a) (fun H' => SqT K H' a xs ∧ Ex S H') S H1 (Gr.of_ex e e1) (fun H' q => ⟨ex_t q hx, q⟩) (fun i H' hi q => walk_tup.goes i H' hi q.1) (fun H' q => walk_tup.stops H' q.1)
    fun i H' x H'' σ' Q hi q y k => by
      obtain ⟨e2, e3⟩ := walk_tup.yields i H' x H'' hi q.1 y
      subst e2
      exact hu i x H'' σ' Q e3 q.2 k⟩
theorem turns_rng1 {ta : TA} {j : Nat} {m : Nat} (h : EvA ta σ S [.int (m : Int)]) (hm : m ≤ 1000000) : Turns (iRng1 ta) (gName j) σ S m fun i σ' => σ'.set j (some (.int (i : Int))) := fun H e R r =>
  h H e _ fun H1 e1 => ⟨(m : Int), rfl, by omega, by omega, by
    have em : (m : Int).toNat = m := by omega
    rw [em]
    exact r (Itr 0 m) (fun _ => True) S H1 (Gr.of_ex e e1) (fun _ _ => trivial) (fun i H' hi q => walk_range.goes i H' hi q) (fun H' q => walk_range.stops H' q) fun i H' x H'' σ' Q hi q y k => by
      obtain ⟨e2, e3⟩ := walk_range.yields i H' x H'' hi q y
      subst e2 e3
      have e0 : (0 : Int) + (i : Int) = (i : Int) := Int.zero_add _
      show Q (σ'.set j (some (.int ((0 : Int) + (i : Int))))) H''
      rw [e0]
      exact k H'' (Ex.refl _)⟩
/-- (a, b) = an item that is a pair in the heap -/
theorem g_pair {j k : Nat} {a : Addr} {x y : V} {H : Hp} {σ' : L2.St} {Q : L2.St → Hp → Prop} (h : SqT K H a [x, y]) (q : Q ((σ'.set j (some x)).set k (some y)) H) : gTup K 2 (gCons (gName j) (gCons (gName k) gNil)) (.ref a) σ' H Q :=
  ⟨a, [x, y], rfl, h, rfl, x, [y], rfl, y, [], rfl, rfl, q⟩
/-- a for loop -/
theorem for_turns {tb : TS} {D : Ends} (ht : TurnsAt wi g σ S H n u) (Pv : Hp → Nat → L2.St → Hp → Prop)
    (h0 : ∀ S1 H1, Gr [] S H S1 H1 → Pv S1 0 σ H1) (hk : ∀ S1 i σ' H', Pv S1 i σ' H' → Ex S1 H')
    (hs : ∀ S1 i σ' H', i < n → Pv S1 i σ' H' → ∀ H'', Ex H' H'' → tb { D with nx := Pv S1 (i + 1), ct := Pv S1 (i + 1), bk := D.nx } (u i σ') H'') (hd : ∀ S1 σ' H', Pv S1 n σ' H' → D.nx σ' H') : tFor wi g tb D σ H := by
  refine ht _ fun J G S1 H1 gr hG hgo hst hy => ?_
  have h0 := h0 S1 H1 gr
  refine ⟨fun i m σ H => m = n - i ∧ i ≤ n ∧ Pv S1 i σ H, ⟨n, by simp, Nat.zero_le _, h0⟩, ?_⟩
  rintro i m σ' H' ⟨rfl, hi, p⟩
  have q := hG H' (hk S1 i σ' H' p)
  by_cases hlt : i < n
  · refine .inr ⟨hgo i H' hlt q, Pv S1 (i + 1), fun σ2 H2 p2 => ⟨n - (i + 1), by omega, rfl, hlt, p2⟩, fun x H2 y => ?_⟩
    exact hy i H' x H2 σ' _ hlt q y fun H3 e3 => hs S1 i σ' H' hlt p H3 e3
  · have ei : i = n := by omega
    subst ei
    exact .inl ⟨hst H' q, hd S1 σ' H' p⟩
/-- a comprehension: I speaks of the turn, what was made, the stable part -/
theorem lc_turns {tt : TT} {te : TE} {vs : List Nat} {P : V → Hp → Prop} (ht : Turns wi g σ S n u) (hw : ∀ i, i < n → wipe (u i (wipe σ vs)) vs = wipe σ vs) (I : Nat → List V → Hp → Prop) (hz : n ≤ 100000)
    (h0 : ∀ S1, Ex S S1 → I 0 [] S1) (hlen : ∀ i acc S', I i acc S' → acc.length ≤ i) (mono : ∀ i acc A B, Ex A B → I i acc A → I i acc B)
    (hs : ∀ i acc S1, i < n → Ex S S1 → I i acc S1 → ∃ b, EvT tt (u i (wipe σ vs)) S1 b ∧ (b = true → EvG te (u i (wipe σ vs)) S1 fun y S2 => I (i + 1) (acc ++ [y]) S2) ∧ (b = false → I (i + 1) acc S1))
    (hd : ∀ p acc S1, Ex S S1 → S p = none → S1 p = some (.lst acc) → I n acc S1 → P (.ref p) S1) : EvG (tLc wi g tt te vs) σ S P := by
  intro H e Q q
  refine ht H e _ fun J G S1 H1 gr hG hgo hst hy => fun D hD => ?_
  have hDH : H D = none := gr.fr e hD
  have key : ∀ {S2 H2 acc}, Gr [] S1 (upd H1 D (.lst [])) S2 H2 → Gr [] S H (upd S2 D (.lst acc)) (upd H2 D (.lst acc)) := fun {S2 H2 acc} g2 => by
    have g3 : Gr [] S H S1 (upd H1 D (.lst [])) := gr.trans (Gr.lay gr.i hD)
    have hs2 : S2 D = none := g2.f D (fresh_back gr.i hD) (by rw [upd_same]; simp)
    exact ((g3.trans g2).put (.inl hDH) hs2).fix hDH upd_same
  refine ⟨fun i m H' => m = n - i ∧ i ≤ n ∧ ∃ S2 acc, Ex S1 S2 ∧ Ex S2 H' ∧ S2 D = none ∧ H' D = some (.lst acc) ∧ I i acc S2 ∧ (∀ b o, H b = some o → H' b = some o) ∧ (∀ b, S b = none → H b ≠ none → S2 b = none), ⟨n, by simp, Nat.zero_le _, S1, [], Ex.refl _, ?_, fresh_back gr.i hD, upd_same, h0 S1 gr.s, ?_, gr.f⟩, ?_⟩
  · exact (gr.i).mut (fresh_back gr.i hD)
  · intro b o hb
    rw [upd_ne (ne_of_none hb hDH)]
    exact gr.ex b o hb
  rintro i m H' ⟨rfl, hi, S2, acc, x1, x2, hSD, hHD, hI, hk, hf⟩
  have hq := hG H' (x1.trans x2)
  by_cases hlt : i < n
  · refine .inr ⟨hgo i H' hlt hq, fun H2 => i + 1 ≤ n ∧ ∃ S2 acc, Ex S1 S2 ∧ Ex S2 H2 ∧ S2 D = none ∧ H2 D = some (.lst acc) ∧ I (i + 1) acc S2 ∧ (∀ b o, H b = some o → H2 b = some o) ∧ (∀ b, S b = none → H b ≠ none → S2 b = none), fun H2 p2 => ⟨n - (i + 1), by omega, rfl, p2⟩, fun x H2 y => ?_⟩
    refine hy i H' x H2 (wipe σ vs) _ hlt hq y fun H3 e3 => ⟨hw i hlt, ?_⟩
    obtain ⟨b, hb, hb1, hb2⟩ := hs i acc S2 hlt (gr.s.trans x1) hI
    refine hb H3 (x2.trans e3) _ fun H4 e4 => ?_
    have h4D : H4 D = some (.lst acc) := e4 _ _ (e3 _ _ hHD)
    have hH4 : ∀ b o, H b = some o → H4 b = some o := fun b o h => e4 _ _ (e3 _ _ (hk b o h))
    cases b with
    | false =>
      show _ ∧ _
      exact ⟨hlt, S2, acc, x1, (x2.trans e3).trans e4, hSD, h4D, hb2 rfl, hH4, hf⟩
    | true =>
      show te _ H4 _
      refine hb1 rfl H4 ((x2.trans e3).trans e4) _ fun z S5 H5 g5 p5 => ?_
      have h5D : H5 D = some (.lst acc) := g5.ex _ _ h4D
      have s5D : S5 D = none := g5.f D hSD (by rw [h4D]; simp)
      refine ⟨acc, h5D, sz_lt (by have := hlen i acc S2 hI; omega), hlt, S5, acc ++ [z], x1.trans g5.s, g5.i.mut s5D, s5D, upd_same, p5, fun b o h => ?_, fun b h hn => ?_⟩
      · rw [upd_ne (ne_of_none h hDH)]
        exact g5.ex _ _ (hH4 b o h)
      · obtain ⟨o, ho⟩ := Option.ne_none_iff_exists'.mp hn
        exact g5.f b (hf b h hn) (by rw [hH4 b o ho]; simp)
  · have ei : i = n := by omega
    subst ei
    refine .inl ⟨hst H' hq, q (.ref D) (upd S2 D (.lst acc)) H' ⟨(gr.s.trans x1).trans (Ex.new hSD), fun b o h => ?_, fun b o _ h => hk b o h, fun b h hn => ?_, fun b h => ?_⟩ (hd D acc _ ((gr.s.trans x1).trans (Ex.new hSD)) (fresh_back (gr.s.trans x1) hSD) upd_same (mono i acc S2 _ (Ex.new hSD) hI))⟩
    · by_cases hb : b = D
      · subst hb; rw [upd_same] at h; rw [hHD, ← h]
      · rw [upd_ne hb] at h; exact x2 b o h
    · have hb : b ≠ D := fun z => hn (by rw [z]; exact hDH)
      rw [upd_ne hb]; exact hf b h hn
    · obtain ⟨o, ho⟩ := Option.ne_none_iff_exists'.mp h
      rw [hk b o ho]; simp
end
end Tr
end
section
set_option Elab.async false
set_option linter.all false
set_option maxRecDepth 100000
set_option maxHeartbeats 4000000
/-! zip; data in the heap; small rules. -/
namespace Tr
open PySem PySem.Spec PyProof.Rows L2 Evl
def EvAG (ta : TA) (σ : L2.St) (S : Hp) (P : List V → Hp → Prop) : Prop := ∀ H, Ex S H → ∀ Q : List V → Hp → Prop, (∀ vs S1 H1, Gr [] S H S1 H1 → P vs S1 → Q vs H1) → ta σ H Q
section
variable {K : PySem.W.Frag} {σ : L2.St} {S H : Hp} {tl te tb : TE} {g : TG} {n : Nat} {u : Nat → L2.St → L2.St} {wi : TI} {ta : TA}
theorem eag_of {vs : List V} {P : List V → Hp → Prop} (h : EvA ta σ S vs) (hp : P vs S) : EvAG ta σ S P := fun H e Q q => h H e Q fun H1 e1 => q vs S H1 (Gr.of_ex e e1) hp
theorem eag_nil {P : List V → Hp → Prop} (hp : P [] S) : EvAG tNil σ S P := fun H e Q q => q [] S H (Gr.refl e) hp
theorem eag_cons {tr : TA} {v : V} {P : List V → Hp → Prop} (h : Ev te σ S v) (hr : EvAG tr σ S fun vs S' => P (v :: vs) S') : EvAG (tCons te tr) σ S P := fun H e Q q =>
  h H e _ fun H1 e1 => hr H1 (e.trans e1) _ fun vs S2 H2 g p => q (v :: vs) S2 H2 ((Gr.of_ex e e1).trans g) p
theorem eag_consG {tr : TA} {Pv : V → Hp → Prop} {P : List V → Hp → Prop} (h : EvG te σ S Pv) (hr : ∀ v S1, Ex S S1 → Pv v S1 → EvAG tr σ S1 fun vs S' => P (v :: vs) S') : EvAG (tCons te tr) σ S P := fun H e Q q =>
  h H e _ fun v S1 H1 g1 p1 => hr v S1 g1.s p1 H1 g1.i _ fun vs S2 H2 g p => q (v :: vs) S2 H2 (g1.trans g) p
/-- zip of two lists, two tuples; n the lesser length -/
theorem turns_zip {P : List V → Hp → Prop} (h : EvAG ta σ S P) (hx : ∀ vs S1, Ex S S1 → P vs S1 → ∃ a b xs ys, vs = [.ref a, .ref b] ∧ ((SqL K S1 a xs ∧ SqL K S1 b ys) ∨ (SqT K S1 a xs ∧ SqT K S1 b ys)) ∧ n = min xs.length ys.length ∧
    ∀ i x y T (H : Hp) (σ' : L2.St) (Q : L2.St → Hp → Prop), xs[i]? = some x → ys[i]? = some y → Ex S1 H → H T = some (.tup [x, y]) → (∀ H3, Ex H H3 → Q (u i σ') H3) → g (.ref T) σ' H Q) : Turns (RZ.iZipA K ta) g σ S n u := fun H e R r =>
  h H e _ fun vs S1 H1 gr p => by
    obtain ⟨a, b, xs, ys, rfl, hq, hn, hu⟩ := hx vs S1 gr.s p
    refine ⟨a, b, xs, ys, rfl, ?_⟩
    rcases hq with ⟨hqa, hqb⟩ | ⟨hqa, hqb⟩
    · refine .inl ⟨ex_l gr.i hqa, ex_l gr.i hqb, r (Itz K a b) (fun H' => (SqL K H' a xs ∧ SqL K H' b ys) ∧ Ex S1 H') S1 H1 gr (fun H' q => ⟨⟨ex_l q hqa, ex_l q hqb⟩, q⟩) (fun i H' hi q => (walk_zip hn).goes i H' hi q.1) (fun H' q => (walk_zip hn).stops H' q.1) fun i H' x H'' σ' Q hi q y k => ?_⟩
      obtain ⟨T, z1, z2, rfl, hT, rfl, h1, h2⟩ := (walk_zip hn).yields i H' x H'' hi q.1 y
      exact hu i z1 z2 T _ σ' Q h1 h2 (q.2.trans (Ex.new hT)) upd_same fun H3 e3 => k H3 ((Ex.new hT).trans e3)
    · refine .inr ⟨ex_t gr.i hqa, ex_t gr.i hqb, r (RZ.ItzT K a b) (fun H' => (SqT K H' a xs ∧ SqT K H' b ys) ∧ Ex S1 H') S1 H1 gr (fun H' q => ⟨⟨ex_t q hqa, ex_t q hqb⟩, q⟩) (fun i H' hi q => ?_) (fun H' q => ?_) fun i H' x H'' σ' Q hi q y k => ?_⟩
      · have h1 : i < xs.length := by omega
        have h2 : i < ys.length := by omega
        exact ⟨xs, ys, xs[i], ys[i], q.1.1, q.1.2, by simp [h1], by simp [h2]⟩
      · exact ⟨xs, ys, q.1.1, q.1.2, by omega⟩
      · obtain ⟨T, z1, z2, rfl, hT, rfl, h1, h2⟩ := y
        exact hu i z1 z2 T _ σ' Q (h1 _ q.1.1) (h2 _ q.1.2) (q.2.trans (Ex.new hT)) upd_same fun H3 e3 => k H3 ((Ex.new hT).trans e3)
end
/-! ### data in the heap -/
def iV (xs : List Int) : List V := xs.map V.int
def nV (xs : List Nat) : List V := xs.map fun k : Nat => V.int (k : Int)
def TupA (S : Hp) (v : V) (xs : List V) : Prop := ∃ a, v = .ref a ∧ S a = some (.tup xs)
def LstA (S : Hp) (v : V) (xs : List V) : Prop := ∃ a, v = .ref a ∧ S a = some (.lst xs)
def PairV (S : Hp) (v : V) (e : Nat × Nat) : Prop := TupA S v [.int (e.1 : Int), .int (e.2 : Int)]
def PairsT (S : Hp) (v : V) (es : List (Nat × Nat)) : Prop := ∃ ps, TupA S v ps ∧ Paired (PairV S) ps es
def PairsL (S : Hp) (v : V) (es : List (Nat × Nat)) : Prop := ∃ ps, LstA S v ps ∧ Paired (PairV S) ps es
def WebV (S : Hp) (v : V) (n : Nat) (es : List (Nat × Nat)) : Prop := ∃ b, TupA S v [.int (n : Int), b] ∧ PairsT S b es
/-- a list of lists of fields -/
def RowsV (S : Hp) (v : V) (xss : List (List Nat)) : Prop := ∃ rows, LstA S v rows ∧ Paired (fun x xs => LstA S x (nV xs)) rows xss
section
variable {S S' : Hp} {v : V}
theorem TupA.mono {xs : List V} (e : Ex S S') (h : TupA S v xs) : TupA S' v xs := let ⟨a, h1, h2⟩ := h; ⟨a, h1, e _ _ h2⟩
theorem LstA.mono {xs : List V} (e : Ex S S') (h : LstA S v xs) : LstA S' v xs := let ⟨a, h1, h2⟩ := h; ⟨a, h1, e _ _ h2⟩
theorem PairV.mono {p : Nat × Nat} (e : Ex S S') (h : PairV S v p) : PairV S' v p := TupA.mono e h
theorem PairsT.mono {es : List (Nat × Nat)} (e : Ex S S') (h : PairsT S v es) : PairsT S' v es := let ⟨ps, h1, h2⟩ := h; ⟨ps, h1.mono e, h2.mono fun _ _ q => q.mono e⟩
theorem PairsL.mono {es : List (Nat × Nat)} (e : Ex S S') (h : PairsL S v es) : PairsL S' v es := let ⟨ps, h1, h2⟩ := h; ⟨ps, h1.mono e, h2.mono fun _ _ q => q.mono e⟩
theorem WebV.mono {n : Nat} {es : List (Nat × Nat)} (e : Ex S S') (h : WebV S v n es) : WebV S' v n es := let ⟨b, h1, h2⟩ := h; ⟨b, h1.mono e, h2.mono e⟩
theorem RowsV.mono {xss : List (List Nat)} (e : Ex S S') (h : RowsV S v xss) : RowsV S' v xss := let ⟨r, h1, h2⟩ := h; ⟨r, h1.mono e, h2.mono fun _ _ q => q.mono e⟩
end
theorem pget {α β : Type} {F : α → β → Prop} : ∀ {l1 : List α} {l2 : List β} {i : Nat} {a : α}, Paired F l1 l2 → l1[i]? = some a → ∃ b, l2[i]? = some b ∧ F a b
  | _, _, _, _, .nil, h => by simp at h
  | _, _, 0, _, .cons r _, h => by simp at h; subst h; exact ⟨_, rfl, r⟩
  | _, _, i + 1, a, .cons _ t, h => by
    obtain ⟨b, h1, h2⟩ := pget (i := i) (a := a) t (by simpa using h)
    exact ⟨b, by simpa using h1, h2⟩
theorem pgetR {α β : Type} {F : α → β → Prop} : ∀ {l1 : List α} {l2 : List β} {i : Nat} {b : β}, Paired F l1 l2 → l2[i]? = some b → ∃ a, l1[i]? = some a ∧ F a b
  | _, _, _, _, .nil, h => by simp at h
  | _, _, 0, _, .cons r _, h => by simp at h; subst h; exact ⟨_, rfl, r⟩
  | _, _, i + 1, b, .cons _ t, h => by
    obtain ⟨a, h1, h2⟩ := pgetR (i := i) (b := b) t (by simpa using h)
    exact ⟨a, by simpa using h1, h2⟩
theorem atI_of {xs : List V} {j : Nat} {v : V} (h : xs[j]? = some v) : atI xs (j : Int) = some v := atI_nat h
theorem nV_get {xs : List Nat} {i k : Nat} (h : xs[i]? = some k) : (nV xs)[i]? = some (.int (k : Int)) := by
  unfold nV
  rw [List.getElem?_map, h]; rfl
theorem iV_get {xs : List Int} {i : Nat} {k : Int} (h : xs[i]? = some k) : (iV xs)[i]? = some (.int k) := by
  unfold iV
  rw [List.getElem?_map, h]; rfl
theorem nV_len {xs : List Nat} : (nV xs).length = xs.length := List.length_map _
theorem iV_len {xs : List Int} : (iV xs).length = xs.length := List.length_map _
theorem nV_iV {xs : List Nat} : nV xs = iV (xs.map fun k : Nat => (k : Int)) := by unfold nV iV; rw [List.map_map]; rfl
section
variable {K : PySem.W.Frag} {σ : L2.St} {S H : Hp} {ta tb te : TE} {v : V} {xs : List V}
/-- t[i] of a tuple | a list in the stable part -/
theorem ev_ixT {x : V} {j : Nat} (ha : Ev ta σ S x) (hb : Ev tb σ S (.int (j : Int))) (h : TupA S x xs) (hj : xs[j]? = some v) : Ev (tOp (rIxT K) ta tb) σ S v := by
  obtain ⟨a, rfl, h⟩ := h
  exact ev_op ha hb (rv_ixT (st_of h) (atI_of hj))
theorem ev_ixL {x : V} {j : Nat} (ha : Ev ta σ S x) (hb : Ev tb σ S (.int (j : Int))) (h : LstA S x xs) (hj : xs[j]? = some v) : Ev (tOp (rIxL K) ta tb) σ S v := by
  obtain ⟨a, rfl, h⟩ := h
  exact ev_op ha hb (rv_ixL (sq_of h) (atI_of hj))
/-- t[i] of something made -/
theorem ev_ixTG {P : V → Hp → Prop} {j : Nat} (ha : EvG ta σ S P) (hb : ∀ S1, Ex S S1 → Ev tb σ S1 (.int (j : Int))) (h : ∀ x S1, Ex S S1 → P x S1 → ∃ xs, TupA S1 x xs ∧ xs[j]? = some v) : Ev (tOp (rIxT K) ta tb) σ S v := fun H e Q q =>
  ha H e _ fun x S1 H1 g p => by
    obtain ⟨xs, ⟨a, rfl, hx⟩, hj⟩ := h x S1 g.s p
    exact hb S1 g.s H1 g.i _ fun H2 e2 => ⟨a, xs, _, v, rfl, rfl, ex_t (g.i.trans e2) (st_of hx), atI_of hj, q H2 (g.ex.trans e2)⟩
end
end Tr
namespace Tr
open PySem PySem.Spec PyProof.Rows L2 Evl
section
variable {K : PySem.W.Frag} {σ : L2.St} {S H : Hp} {te : TE} {g : TG} {n : Nat} {u : Nat → L2.St → L2.St} {wi : TI} {tt : TT} {vs : List Nat}
theorem et_yes : EvT tYes σ S true := fun H1 e Q q => q H1 (Ex.refl H1)
theorem range_snoc {α : Type} {n : Nat} {f : Nat → α} : (List.range (n + 1)).map f = (List.range n).map f ++ [f n] := by
  rw [List.range_succ, List.map_append]; rfl
/-- each element's value is known -/
theorem lc_map (f : Nat → V) (ht : Turns wi g σ S n u) (hw : ∀ i, i < n → wipe (u i (wipe σ vs)) vs = wipe σ vs) (hz : n ≤ 100000) (he : ∀ i S1, i < n → Ex S S1 → Ev te (u i (wipe σ vs)) S1 (f i)) :
    EvG (tLc wi g tYes te vs) σ S fun v S' => LstA S' v ((List.range n).map f) := by
  refine lc_turns ht hw (fun i acc _ => acc = (List.range i).map f) hz (fun _ _ => rfl) (fun i acc _ h => by rw [h, List.length_map, List.length_range]; exact Nat.le_refl _) (fun _ _ _ _ _ h => h) (fun i acc S1 hi e h => ⟨true, et_yes, fun _ => EvG.of (he i S1 hi e) fun S' _ => ?_, fun q => nomatch q⟩) fun p acc S1 e _ hp h => ⟨p, rfl, by rw [hp, h]⟩
  rw [h, range_snoc]
theorem range_filter {α : Type} {n : Nat} {p : Nat → Bool} {f : Nat → α} : ((List.range (n + 1)).filter p).map f = ((List.range n).filter p).map f ++ (if p n = true then [f n] else []) := by
  rw [List.range_succ, List.filter_append, List.map_append]
  congr 1
  by_cases h : p n = true
  · rw [if_pos h, List.filter_cons, if_pos h]; rfl
  · rw [if_neg h, List.filter_cons, if_neg h]; rfl
theorem lc_filter (p : Nat → Bool) (f : Nat → V) (ht : Turns wi g σ S n u) (hw : ∀ i, i < n → wipe (u i (wipe σ vs)) vs = wipe σ vs) (hz : n ≤ 100000) (hp : ∀ i S1, i < n → Ex S S1 → EvT tt (u i (wipe σ vs)) S1 (p i)) (he : ∀ i S1, i < n → p i = true → Ex S S1 → Ev te (u i (wipe σ vs)) S1 (f i)) :
    EvG (tLc wi g tt te vs) σ S fun v S' => LstA S' v (((List.range n).filter p).map f) := by
  refine lc_turns ht hw (fun i acc _ => acc = ((List.range i).filter p).map f) hz (fun _ _ => rfl) (fun i acc _ h => ?_) (fun _ _ _ _ _ h => h) (fun i acc S1 hi e h => ⟨p i, hp i S1 hi e, fun hb => EvG.of (he i S1 hi hb e) fun S' _ => ?_, fun hb => ?_⟩) fun q acc S1 e _ hp h => ⟨q, rfl, by rw [hp, h]⟩
  · rw [h, List.length_map]
    exact Nat.le_trans (List.length_filter_le _ _) (by rw [List.length_range]; exact Nat.le_refl _)
  · rw [h, range_filter, if_pos hb]
  · rw [h, range_filter, if_neg (by rw [hb]; decide), List.append_nil]
/-- all([..]), sum([..]) of a list that is made -/
theorem ev_all {b : Bool} (h : EvG te σ S fun v S' => ∃ bs : List Bool, LstA S' v (bs.map V.bl) ∧ bs.all id = b) : Ev (tCB (rAll K) (tCons te tNil)) σ S (.bl b) :=
  ev_cbG h fun v S1 e ⟨bs, ⟨a, hv, ha⟩, hb⟩ H1 e1 Q q => ⟨a, bs, by rw [hv], ex_l e1 (sq_of ha), by rw [hb]; exact q H1 (Ex.refl H1)⟩
theorem ev_sum {z : Int} (h : EvG te σ S fun v S' => ∃ ns : List Int, LstA S' v (iV ns) ∧ ns.sum = z) : Ev (tCB (rSum K) (tCons te tNil)) σ S (.int z) :=
  ev_cbG h fun v S1 e ⟨ns, ⟨a, hv, ha⟩, hb⟩ H1 e1 Q q => ⟨a, ns, by rw [hv], ex_l e1 (sq_of ha), by rw [hb]; exact q H1 (Ex.refl H1)⟩
theorem all_map {n : Nat} {f : Nat → Bool} (h : ∀ i, i < n → f i = true) : ((List.range n).map f).all id = true := by
  rw [List.all_eq_true]
  intro b hb
  obtain ⟨i, hi, e⟩ := List.mem_map.mp hb
  rw [← e]; exact h i (List.mem_range.mp hi)
/-- x, y = a for over a tuple of pairs -/
theorem set2_wipe (σ : L2.St) (j k : Nat) (x y : Option V) : wipe (((wipe σ [j, k]).set j x).set k y) [j, k] = wipe σ [j, k] := by
  show (((((σ.set k none).set j none).set j x).set k y).set k none).set j none = (σ.set k none).set j none
  by_cases h : j = k
  · subst h
    simp only [List.set_set]
  · rw [List.set_set, List.set_set, List.set_comm _ _ (Ne.symm h), List.set_set]
    rw [List.set_comm none none h, List.set_set]
theorem set1_wipe (σ : L2.St) (j : Nat) (x : Option V) : wipe ((wipe σ [j]).set j x) [j] = wipe σ [j] := by
  show ((σ.set j none).set j x).set j none = σ.set j none
  rw [List.set_set, List.set_set]
end
end Tr
end
section
set_option Elab.async false
set_option linter.all false
set_option maxRecDepth 100000
set_option maxHeartbeats 4000000
/-! rules with the written part K named (a comprehension's block must not hide it). -/
namespace Tr
open PySem PySem.Spec PyProof.Rows L2 Evl
section
variable (K : PySem.W.Frag) {X : Cx}
theorem ixTK (h : X.K = K := by rfl) : IxR X (rIxT K) := h ▸ ix_tup
theorem ixLK (h : X.K = K := by rfl) : IxR X (rIxL K) := h ▸ ix_list
theorem isiK (h : X.K = K := by rfl) : CallR X (.builtin "isinstance") (rIsi K) := h ▸ call_isi
def rLenQ (K : PySem.W.Frag) : List V → Hp → VK → Prop := fun xs H Q => ∃ p ys, xs = [V.ref p] ∧ (SqL K H p ys ∨ SqT K H p ys) ∧ Q (.int ys.length) H
theorem lenK (h : X.K = K := by rfl) : CallR X (.builtin "len") (rLenQ K) := h ▸ call_len_seq
theorem allK (hc : X.calm = true := by rfl) (h : X.K = K := by rfl) : CallR X (.builtin "all") (rAll K) := h ▸ cr_all hc
theorem sumK (hc : X.calm = true := by rfl) (h : X.K = K := by rfl) : CallR X (.builtin "sum") (rSum K) := h ▸ cr_sum hc
theorem sortedK (h : X.K = K := by rfl) : CallR X (.builtin "sorted") (rSorted K) := h ▸ cr_sorted
theorem ltTK (hu : X.A.units < cLine) (h : X.K = K := by rfl) : OpR X (compareOp .Lt) (rLtT K) := h ▸ op_ltT hu
theorem eqDK (hu : X.A.units + 64 < cLine) (h : X.K = K := by rfl) : OpR X (compareOp .Eq) (rEqD K) := h ▸ op_eqD hu
theorem neDK (hu : X.A.units + 64 < cLine) (h : X.K = K := by rfl) : OpR X (compareOp .NotEq) (rNeD K) := h ▸ op_neD hu
theorem inK (h : X.K = K := by rfl) : OpR X (compareOp .In) (rIn K false) := h ▸ op_in_seq
theorem notInK (h : X.K = K := by rfl) : OpR X (compareOp .NotIn) (rIn K true) := h ▸ op_notIn_seq
def rTupOf (K : PySem.W.Frag) : List V → Hp → VK → Prop := fun xs H Q => ∃ p ys, xs = [V.ref p] ∧ ((SqL K H p ys ∧ ∀ l, H l = none → Q (.ref l) (upd H l (.tup ys))) ∨ (SqT K H p ys ∧ Q (.ref p) H))
theorem tupOfK (h : X.K = K := by rfl) : CallR X (.type "tuple") (rTupOf K) := h ▸ call_tuple_of
theorem slAK (h : X.K = K := by rfl) : SlR X (rSlA K) := h ▸ sl_tupA
theorem piLK {tg l : Expr} {tl : TE} (hl : PE X l tl) (h : X.K = K := by rfl) : PI X tg l (iList K tl) := h ▸ pi_list hl
theorem piTK {tg l : Expr} {tl : TE} (hl : PE X l tl) (h : X.K = K := by rfl) : PI X tg l (iTup K tl) := h ▸ pi_tup hl
end
end Tr
namespace Tr
open PySem PySem.Spec PyProof.Rows L2 Evl
section
variable {K : PySem.W.Frag} {S H : Hp} {σ : L2.St} {ta tb te : TE}
theorem dpI (ns : List Int) : DpAll K H (iV ns) (ns.map PyData.int) := by
  induction ns with
  | nil => exact .nil
  | cons n r ih => exact .cons (.int n) ih
theorem eqv_nil (ds : List PyData) : PyData.eqv (.list ds) (.list []) = ds.isEmpty := by
  cases ds <;> simp [PyData.eqv, PyData.eqvAll]
/-- xs == [], xs != [] of a list of ints -/
theorem rv_eqNil {a p : Addr} {ns : List Int} (h : SqL K S a (iV ns)) (hp : S p = some (.lst [])) : RV (rEqD K) (.ref a) (.ref p) S (.bl ns.isEmpty) := fun H e Q q =>
  ⟨.list (ns.map PyData.int), .list [], .lst (ex_l e h) (dpI ns), .lst (sq_of (e _ _ hp)) .nil, PySem.W.ke_shaped_ints ns, PySem.W.ke_shaped_ints [], by
    rw [eqv_nil, List.isEmpty_map]; exact q H (Ex.refl H)⟩
theorem rv_neNil {a p : Addr} {ns : List Int} (h : SqL K S a (iV ns)) (hp : S p = some (.lst [])) : RV (rNeD K) (.ref a) (.ref p) S (.bl (!ns.isEmpty)) := fun H e Q q =>
  ⟨.list (ns.map PyData.int), .list [], .lst (ex_l e h) (dpI ns), .lst (sq_of (e _ _ hp)) .nil, PySem.W.ke_shaped_ints ns, PySem.W.ke_shaped_ints [], by
    rw [eqv_nil, List.isEmpty_map]; exact q H (Ex.refl H)⟩
theorem ev_neNil {v : V} {ns : List Int} (ha : Ev ta σ S v) (h : LstA S v (iV ns)) : Ev (tOp (rNeD K) ta (tLst tNil)) σ S (.bl (!ns.isEmpty)) := by
  obtain ⟨a, rfl, h⟩ := h
  exact ev_opL ha (el_lst ea_nil (by decide)) fun p H1 hp e => rv_neNil (ex_l e (sq_of h)) hp
/-- a made list == [] -/
theorem ev_eqNilG {ns : List Int} (ha : EvG ta σ S fun v S' => LstA S' v (iV ns)) : Ev (tOp (rEqD K) ta (tLst tNil)) σ S (.bl ns.isEmpty) := fun H e Q q =>
  ha H e _ fun v S1 H1 g ⟨a, ev, h⟩ => el_lst (σ := σ) ea_nil (by decide) H1 (Ex.refl H1) _ fun p H2 hp e2 h2 => by
    rw [ev]
    exact rv_eqNil (S := H2) (ex_l (g.i.trans e2) (sq_of h)) h2 H2 (Ex.refl H2) Q fun H3 e3 => q H3 ((g.ex.trans e2).trans e3)
end
end Tr
end
section
set_option Elab.async false
set_option linter.all false
set_option maxRecDepth 100000
set_option maxHeartbeats 4000000
namespace Tr
open PySem PySem.Spec PyProof.Rows L2 Evl
section
variable {P : Program} {w : World} {K : PySem.W.Frag} {mg : Str → Option Value} {base : Heap}
/-! ### is_int, is_in -/
def sp_is_int : Sp := fun vs H Q _ => ∃ i : Int, vs = [.int i] ∧ RetV (.bl true) H Q
theorem ok_is_int (T : Tx K mg) : OkD P w K mg base 1 "is_int" ["value"] sp_is_int := by
  refine mk_is_int T (fun vs H Q E h => ?_) (fun f cdv A outer s H vs Q E hr h => ?_)
  · obtain ⟨i, rfl, _⟩ := h
    rfl
  · obtain ⟨i, rfl, q⟩ := h
    refine ⟨_, pss_one (ps_ret (pe_and (pe_callB call_isi (by rfl) T.b_isinstance (by decide +kernel) (pa_cons (pv 0) (pa_cons (pe_bltn (v := .ty "int") (by rfl) T.b_int (by decide +kernel) rfl) pa_nil)))
      (pe_one (pe_not (pe_callB call_isi (by rfl) T.b_isinstance (by decide +kernel) (pa_cons (pv 0) (pa_cons (pe_bltn (v := .ty "bool") (by rfl) T.b_bool (by decide +kernel) rfl) pa_nil))))))), ?_⟩
    refine s_ret (v := .bl (true && !false)) (ev_andV (ev_cb (ea_cons (ev_var rfl) (ea_cons ev_c ea_nil)) ?_) (fun _ => ev_notV (ev_cb (ea_cons (ev_var rfl) (ea_cons ev_c ea_nil)) ?_))) q
    · exact fun H1 e1 Q q => ⟨_, _, _, _, true, rfl, .ty "int", .base (.int i), kit_ty (by decide +kernel), q H1 (Ex.refl H1)⟩
    · exact fun H1 e1 Q q => ⟨_, _, _, _, false, rfl, .ty "bool", .base (.int i), kit_ty (by decide +kernel), q H1 (Ex.refl H1)⟩
def sp_is_in : Sp := fun vs H Q _ => ∃ i lo hi : Int, vs = [.int i, .int lo, .int hi] ∧ RetV (.bl (decide (lo ≤ i) && decide (i ≤ hi))) H Q
theorem ok_is_in (T : Tx K mg) : OkD P w K mg base 2 "is_in" ["value", "least", "most"] sp_is_in := by
  refine mk_is_in T (fun vs H Q E h => ?_) (fun f cdv A outer s H vs Q E hr h => ?_)
  · obtain ⟨i, lo, hi, rfl, _⟩ := h
    rfl
  · obtain ⟨i, lo, hi, rfl, q⟩ := h
    refine ⟨_, pss_one (ps_ret (pe_and (pcall (ok_is_int T) hr (pa_cons (pv 0) pa_nil)) (pe_one (pe_chain op_le op_le (pv 1) (pv 0) (pv 2))))), ?_⟩
    refine s_ret (v := .bl (true && (decide (lo ≤ i) && decide (i ≤ hi)))) (ev_andV (ev_call (ea_cons (ev_var rfl) ea_nil) ?_) (fun _ => ?_)) q
    · exact fun H1 e1 Q q E => ⟨i, rfl, q⟩
    · exact ev_chain (x := .int lo) (y := .int i) (z := .int hi) (ev_var rfl) (ev_var rfl) (ev_var rfl) rv_I0 (fun _ => rv_I0)
theorem sp_is_in_ok {S : Hp} {i lo hi : Int} {b : Bool} (h : (decide (lo ≤ i) && decide (i ≤ hi)) = b) : SpV sp_is_in ([.int i, .int lo, .int hi] ++ []) S (.bl b) := fun H1 _ Q q _ => ⟨i, lo, hi, rfl, fun H2 e2 => by rw [h]; exact q H2 e2⟩
/-! ### isinstance of data -/
theorem rc_isi {K : PySem.W.Frag} {S : Hp} {x : V} {a b : String} {r : Bool} (ty : ∀ H, Ex S H → TyX K H x (.type a)) (h : kitB a b = some r) : RC (rIsi K) [x, .ty b] S (.bl r) := fun H1 e1 Q q => ⟨_, _, _, _, r, rfl, .ty b, ty H1 e1, kit_ty h, q H1 (Ex.refl H1)⟩
theorem ty_tup {K : PySem.W.Frag} {S : Hp} {x : V} {xs : List V} (h : TupA S x xs) : ∀ H, Ex S H → TyX K H x (.type "tuple") := fun H e => by
  obtain ⟨a, rfl, h⟩ := h
  exact .base (.tup (e _ _ h))
theorem ev_lenT {σ : L2.St} {S : Hp} {ta : TE} {x : V} {xs : List V} (ha : Ev ta σ S x) (h : TupA S x xs) : Ev (tCB (rLenQ K) (tCons ta tNil)) σ S (.int (xs.length : Int)) :=
  ev_cb (ea_cons ha ea_nil) fun H1 e1 Q q => by
    obtain ⟨a, rfl, h⟩ := h
    exact ⟨a, xs, rfl, .inr (ex_t e1 (st_of h)), q H1 (Ex.refl H1)⟩
theorem ev_lenL {σ : L2.St} {S : Hp} {ta : TE} {x : V} {xs : List V} (ha : Ev ta σ S x) (h : LstA S x xs) : Ev (tCB (rLenQ K) (tCons ta tNil)) σ S (.int (xs.length : Int)) :=
  ev_cb (ea_cons ha ea_nil) fun H1 e1 Q q => by
    obtain ⟨a, rfl, h⟩ := h
    exact ⟨a, xs, rfl, .inl (ex_l e1 (sq_of h)), q H1 (Ex.refl H1)⟩
/-! ### is_pair -/
def sp_is_pair : Sp := fun vs H Q _ => ∃ (v : V) (e : Nat × Nat) (n : Nat), vs = [v, .int (n : Int)] ∧ PairV H v e ∧ e.1 < e.2 ∧ e.2 < n ∧ RetV (.bl true) H Q
theorem ok_is_pair (T : Tx K mg) : OkD P w K mg base 3 "is_pair" ["value", "size"] sp_is_pair := by
  refine mk_is_pair T (fun vs H Q E h => ?_) (fun f cdv A outer s H vs Q E hr h => ?_)
  · obtain ⟨v, e, n, rfl, _⟩ := h
    rfl
  · obtain ⟨v, e, n, rfl, hv, h1, h2, q⟩ := h
    obtain ⟨a, rfl, ha⟩ := hv
    have hT : TupA H (.ref a) [.int (e.1 : Int), .int (e.2 : Int)] := ⟨a, rfl, ha⟩
    refine ⟨_, (pss_cons (ps_if (PW.pt (pw_or (pt_not (pt_val (pe_callB (isiK K) (by rfl) T.b_isinstance (by decide +kernel) (pa_cons (pv 0) (pa_cons (pe_bltn (v := .ty "tuple") (by rfl) T.b_tuple (by decide +kernel) rfl) pa_nil))))) (pw_or1 (pt_cmpR op_ne (pe_callB (lenK K) (by rfl) T.b_len (by decide +kernel) (pa_cons (pv 0) pa_nil)) pe_int (nomark _)))))
      (pss_one (ps_ret pe_bl))
      pss_nil)
    (pss_one (ps_ret (pe_and (pe_callB (allK K) (by rfl) T.b_all (by decide +kernel) (pa_cons (pe_lc (own := [("field", 2)]) (g := (gName 2)) rfl sc_is_pair.nd (piTK K (pv 0)) (blkOk_by (own := [("field", 2)]) (N := N_is_pair) (sc := defScope s_is_pair) (by decide +kernel)) (fun _ _ _ _ _ => (pg_name (i := 2) sc_is_pair.nd rfl (Or.inl rfl))) (fun _ _ _ _ _ => pts_nil) (fun _ _ _ _ _ => (pcall (ok_is_in T) (hr.mono (by decide)) (pa_cons (pv 2) (pa_cons pe_int (pa_cons (pe_op op_sub (pv 1) pe_int) pa_nil)))))) pa_nil)) (pe_one (pe_cmpR op_lt (pe_ix (ixTK K) (pv 0) pe_int (fun _ _ => rfl)) (pe_ix (ixTK K) (pv 0) pe_int (fun _ _ => rfl)) (nomark _))))))), ?_⟩
    refine q_when (b := !true || !decide (V.int ((2 : Nat) : Int) = V.int 2)) (et_or (et_not (et_B (ev_cb (ea_cons (ev_var rfl) (ea_cons ev_c ea_nil)) (rc_isi (ty_tup hT) (by decide +kernel))))) (fun _ => et_test (ev_op (ev_lenT (xs := [.int (e.1 : Int), .int (e.2 : Int)]) (ev_var rfl) hT) ev_c (rv_ne rfl)))) (fun hb => ?_) (fun _ H1 e1 => ?_)
    · exact absurd hb (by decide)
    have hT1 := hT.mono e1
    refine s_ret (v := .bl (true && decide ((e.1 : Int) < (e.2 : Int)))) (ev_andV (ev_all ?_) (fun _ => ev_op (x := .int (e.1 : Int)) (y := .int (e.2 : Int)) (ev_ixT (j := 0) (ev_var rfl) ev_c hT1 rfl) (ev_ixT (j := 1) (ev_var rfl) ev_c hT1 rfl) rv_I0)) (fun H2 e2 => ?_)
    · refine EvG.imp (lc_map (n := 2) (u := fun i σ' => σ'.set 2 (some (([.int (e.1 : Int), .int (e.2 : Int)] : List V).getD i .non))) (fun i => V.bl true) (turns_tup (xs := [.int (e.1 : Int), .int (e.2 : Int)]) (a := a) (ev_var rfl) (st_of (e1 _ _ ha)) ?_) (fun i _ => set1_wipe _ _ _) (by omega) (fun i S1 hi e2 => ?_)) fun v S' _ hv => ⟨[true, true], hv, rfl⟩
      · intro i x H' σ' Q' hx _ k
        have ex : ([.int (e.1 : Int), .int (e.2 : Int)] : List V).getD i .non = x := by rw [List.getD_eq_getElem?_getD, hx]; rfl
        have := k H' (Ex.refl _)
        rw [ex] at this
        exact this
      · match i, hi with
        | 0, _ => exact ev_call (ea_cons (ev_var rfl) (ea_cons ev_c (ea_cons (ev_op (ev_var rfl) ev_c rv_I0) ea_nil))) (sp_is_in_ok (by simp; omega))
        | 1, _ => exact ev_call (ea_cons (ev_var rfl) (ea_cons ev_c (ea_cons (ev_op (ev_var rfl) ev_c rv_I0) ea_nil))) (sp_is_in_ok (by simp; omega))
    · have hd : decide ((e.1 : Int) < (e.2 : Int)) = true := decide_eq_true (by omega)
      rw [hd]
      exact q H2 (e1.trans e2)
end
end Tr
end
section
set_option Elab.async false
set_option linter.all false
set_option maxRecDepth 100000
set_option maxHeartbeats 4000000
namespace Tr
open PySem PySem.Spec PyProof.Rows L2 Evl
/-! ### webs as data -/
def ltE (e f : Nat × Nat) : Prop := e.1 < f.1 ∨ (e.1 = f.1 ∧ e.2 < f.2)
structure FormOk (n : Nat) (es : List (Nat × Nat)) : Prop where
  lo : 1 ≤ n
  hi : n ≤ 60
  few : es.length ≤ 60
  ok : ∀ e ∈ es, e.1 < e.2 ∧ e.2 < n
  asc : es.Pairwise ltE
theorem lexLt_pair {e f : Nat × Nat} (h : ltE e f) : HT.lexLt [(e.1 : Int), (e.2 : Int)] [(f.1 : Int), (f.2 : Int)] = true := by
  unfold HT.lexLt
  rcases h with h | ⟨h1, h2⟩
  · rw [if_neg (by omega)]; exact decide_eq_true (by omega)
  · rw [if_pos (by omega)]
    unfold HT.lexLt
    rw [if_neg (by omega)]; exact decide_eq_true (by omega)
section
variable {K : PySem.W.Frag} {σ : L2.St} {S H : Hp} {te : TE}
theorem eg_slA {tl th : TO} {v : V} {xs : List V} {lo hi : Option Int} (h : Ev te σ S v) (h1 : EvO tl σ S lo) (h2 : EvO th σ S hi) (hs : TupA S v xs) : EvG (tSl (rSlA K) te tl th) σ S fun w S' => TupA S' w (cutV xs lo hi) := fun H e Q q => by
  obtain ⟨a, rfl, hs⟩ := hs
  refine h H e _ fun H1 e1 => h1 H1 (e.trans e1) _ fun H2 e2 => h2 H2 ((e.trans e1).trans e2) _ fun H3 e3 => ?_
  have e03 : Ex H H3 := (e1.trans e2).trans e3
  refine ⟨a, xs, rfl, ex_t (e.trans e03) (st_of hs), fun hw => ?_, fun hw p hp => ?_⟩
  · refine q _ S H3 (Gr.of_ex e e03) ⟨a, rfl, ?_⟩
    have : cutV xs lo hi = xs := by
      unfold cutV
      rw [hw.1, hw.2]; simp
    rw [this]; exact hs
  · exact q _ (upd S p (.tup (cutV xs lo hi))) _ ((Gr.of_ex e e03).trans (Gr.new (e.trans e03) hp)) ⟨p, rfl, upd_same⟩
theorem cut1 (xs : List V) : cutV xs (some 1) none = xs.drop 1 := by
  unfold cutV
  rw [show HT.sIx xs.length 0 (some 1) = min 1 xs.length from HT.sIx_nat xs.length 0 1, HT.sIx_none]
  cases xs with
  | nil => rfl
  | cons x r =>
    rw [show min 1 (x :: r).length = 1 by rw [List.length_cons]; omega]
    show (List.take ((x :: r).length - 1) r) = r
    rw [List.length_cons, Nat.add_sub_cancel]
    exact List.take_length
end
section
variable {P : Program} {w : World} {K : PySem.W.Frag} {mg : Str → Option Value} {base : Heap}
def sp_has_form : Sp := fun vs H Q _ => ∃ (v : V) (n : Nat) (es : List (Nat × Nat)), vs = [v] ∧ WebV H v n es ∧ FormOk n es ∧ RetV (.bl true) H Q
theorem ok_has_form (T : Tx K mg) : OkD P w K mg base 4 "has_form" ["value"] sp_has_form := by
  refine mk_has_form T (fun vs H Q E h => ?_) (fun f cdv A outer s H vs Q E hr h => ?_)
  · obtain ⟨v, n, es, rfl, _⟩ := h
    rfl
  · obtain ⟨v, n, es, rfl, ⟨b, hT, ps, hB, hps⟩, ok, q⟩ := h
    obtain ⟨t60, h60⟩ := T.int "MOST_FIELDS" 60 (List.mem_of_getElem? (i := 0) rfl)
    refine ⟨_, (pss_cons (ps_if (PW.pt (pw_or (pt_not (pt_val (pe_callB (isiK K) (by rfl) T.b_isinstance (by decide +kernel) (pa_cons (pv 0) (pa_cons (pe_bltn (v := .ty "tuple") (by rfl) T.b_tuple (by decide +kernel) rfl) pa_nil))))) (pw_or (pt_cmpR op_ne (pe_callB (lenK K) (by rfl) T.b_len (by decide +kernel) (pa_cons (pv 0) pa_nil)) pe_int (nomark _)) (pw_or1 (pt_not (pt_val (pcall (ok_is_in T) (hr.mono (by decide)) (pa_cons (pe_ix (ixTK K) (pv 0) pe_int (fun _ _ => rfl)) (pa_cons pe_int (pa_cons (pe_glob (v := .int 60) (by rfl) h60 ⟨_, rfl⟩) pa_nil))))))))))
      (pss_one (ps_ret pe_bl))
      pss_nil)
    (pss_cons (ps_if (PW.pt (pw_or (pt_not (pt_val (pe_callB (isiK K) (by rfl) T.b_isinstance (by decide +kernel) (pa_cons (pe_ix (ixTK K) (pv 0) pe_int (fun _ _ => rfl)) (pa_cons (pe_bltn (v := .ty "tuple") (by rfl) T.b_tuple (by decide +kernel) rfl) pa_nil))))) (pw_or1 (pt_not (pt_val (pe_callB (allK K) (by rfl) T.b_all (by decide +kernel) (pa_cons (pe_lc (own := [("hedge", 3)]) (g := (gName 3)) rfl sc_has_form.nd (piTK K (pe_ix (ixTK K) (pv 0) pe_int (fun _ _ => rfl))) (blkOk_by (own := [("hedge", 3)]) (N := N_has_form) (sc := defScope s_has_form) (by decide +kernel)) (fun _ _ _ _ _ => (pg_name (i := 3) sc_has_form.nd rfl (Or.inl rfl))) (fun _ _ _ _ _ => pts_nil) (fun _ _ _ _ _ => (pcall (ok_is_pair T) (hr.mono (by decide)) (pa_cons (pv 3) (pa_cons (pe_ix (ixTK K) (pv 0) pe_int (fun _ _ => rfl)) pa_nil))))) pa_nil)))))))
      (pss_one (ps_ret pe_bl))
      pss_nil)
    (pss_one (ps_ret (pe_callB (allK K) (by rfl) T.b_all (by decide +kernel) (pa_cons (pe_lc (own := [("one", 1), ("other", 2)]) (g := (gTup K 2 (gCons (gName 1) (gCons (gName 2) gNil)))) rfl sc_has_form.nd (RZ.pi_zipA (by rfl) T.b_zip (pa_cons (pe_ix (ixTK K) (pv 0) pe_int (fun _ _ => rfl)) (pa_cons (pe_slice (slAK K) (pe_ix (ixTK K) (pv 0) pe_int (fun _ _ => rfl)) (po_some pe_int) po_none) pa_nil))) (blkOk_by (own := [("one", 1), ("other", 2)]) (N := N_has_form) (sc := defScope s_has_form) (by decide +kernel)) (fun _ _ _ _ _ => (pg_tup rfl (pgs_cons (pg_name (i := 1) sc_has_form.nd rfl (Or.inl rfl)) (pgs_cons (pg_name (i := 2) sc_has_form.nd rfl (Or.inl rfl)) pgs_nil)))) (fun _ _ _ _ _ => pts_nil) (fun _ _ _ _ _ => (pe_cmpR (ltTK K hr.units0) (pv 1) (pv 2) (nomark _)))) pa_nil)))))), ?_⟩
    have h0 : ∀ {σ : L2.St} {S : Hp} {te : TE}, TupA S v [.int (n : Int), b] → Ev te σ S v → Ev (tOp (rIxT K) te (tC (.int 0))) σ S (.int (n : Int)) := fun h1 h2 => ev_ixT (j := 0) h2 ev_c h1 rfl
    have h1 : ∀ {σ : L2.St} {S : Hp} {te : TE}, TupA S v [.int (n : Int), b] → Ev te σ S v → Ev (tOp (rIxT K) te (tC (.int 1))) σ S b := fun h1 h2 => ev_ixT (j := 1) h2 ev_c h1 rfl
    refine q_when (b := !true || (!decide (V.int ((2 : Nat) : Int) = V.int 2) || !true)) (et_or (et_not (et_B (ev_cb (ea_cons (ev_var rfl) (ea_cons ev_c ea_nil)) (rc_isi (ty_tup hT) (by decide +kernel))))) (fun _ => et_or (et_test (ev_op (ev_lenT (xs := [.int (n : Int), b]) (ev_var rfl) hT) ev_c (rv_ne rfl)))
        (fun _ => et_not (et_B (ev_call (ea_cons (h0 hT (ev_var rfl)) (ea_cons ev_c (ea_cons ev_c ea_nil))) (sp_is_in_ok (by have := ok.lo; have := ok.hi; simp; omega))))))) (fun hb => absurd hb (by decide)) (fun _ H1 e1 => ?_)
    have hT1 := hT.mono e1
    have hB1 := hB.mono e1
    have hps1 : Paired (PairV H1) ps es := hps.mono fun _ _ q => q.mono e1
    obtain ⟨ab, eb, hab⟩ := id hB1
    refine q_when (b := !true || !true) (et_or (et_not (et_B (ev_cb (ea_cons (h1 hT1 (ev_var rfl)) (ea_cons ev_c ea_nil)) (rc_isi (ty_tup hB1) (by decide +kernel))))) (fun _ => et_not (et_B (ev_all ?_)))) (fun hb => absurd hb (by decide)) (fun _ H2 e2 => ?_)
    · refine EvG.imp (lc_map (n := ps.length) (u := fun i σ' => σ'.set 3 (some (ps.getD i .non))) (fun i => V.bl true) (turns_tup (xs := ps) (a := ab) (by rw [← eb]; exact h1 hT1 (ev_var rfl)) (st_of hab) ?_) (fun i _ => set1_wipe _ _ _) ?_ (fun i S1 hi e2 => ?_)) fun v S' _ hv => ⟨(List.range ps.length).map fun _ => true, by rw [List.map_map]; exact hv, all_map fun _ _ => rfl⟩
      · intro i x H' σ' Q' hx _ k
        have ex : ps.getD i .non = x := by rw [List.getD_eq_getElem?_getD, hx]; rfl
        have := k H' (Ex.refl _)
        rw [ex] at this
        exact this
      · rw [hps.length]; have := ok.few; omega
      · obtain ⟨e, he, hpe⟩ := pget hps1 (List.getElem?_eq_getElem hi)
        have hok := ok.ok e (List.mem_of_getElem? he)
        have ex : ps.getD i .non = ps[i] := by rw [List.getD_eq_getElem?_getD, List.getElem?_eq_getElem hi]; rfl
        refine ev_call (ea_cons (ev_var (v := ps[i]) ?_) (ea_cons (h0 (hT1.mono e2) (ev_var rfl)) ea_nil)) fun H3 e3 Q3 q3 _ => ⟨ps[i], e, n, rfl, (hpe.mono e2).mono e3, hok.1, hok.2, q3⟩
        rw [← ex]; rfl
    have hT2 := hT1.mono e2
    have hB2 := hB1.mono e2
    have hps2 : Paired (PairV H2) ps es := hps1.mono fun _ _ q => q.mono e2
    refine s_ret (v := .bl true) (ev_all ?_) (fun H3 e3 => q H3 ((e1.trans e2).trans e3))
    refine EvG.imp (lc_map (n := ps.length - 1) (u := fun i σ' => (σ'.set 1 (some (ps.getD i .non))).set 2 (some (ps.getD (i + 1) .non))) (fun i => V.bl true)
      (turns_zip (P := fun vs S' => ∃ c, vs = [b, c] ∧ TupA S' c (ps.drop 1)) (eag_cons (h1 hT2 (ev_var rfl)) (eag_consG (eg_slA (h1 hT2 (ev_var rfl)) (eo_some ev_c) eo_none hB2) fun c S1 e3 hc => eag_nil ⟨c, rfl, by rw [← cut1]; exact hc⟩)) fun vs S1 e3 ⟨c, hvs, hc⟩ => ?_)
      (fun i _ => set2_wipe _ _ _ _ _) ?_ (fun i S1 hi e3 => ?_)) fun v S' _ hv => ⟨(List.range (ps.length - 1)).map fun _ => true, by rw [List.map_map]; exact hv, all_map fun _ _ => rfl⟩
    · obtain ⟨ac, ec, hac⟩ := hc
      obtain ⟨ab2, eb2, hab2⟩ := hB2.mono e3
      refine ⟨ab2, ac, ps, ps.drop 1, by rw [hvs, eb2, ec], .inr ⟨st_of hab2, st_of hac⟩, by rw [List.length_drop]; omega, ?_⟩
      intro i x y T' H' σ' Q' hx hy e4 hT' k
      have ex : ps.getD i .non = x := by rw [List.getD_eq_getElem?_getD, hx]; rfl
      have ey : ps.getD (i + 1) .non = y := by
        rw [List.getElem?_drop, Nat.add_comm] at hy
        rw [List.getD_eq_getElem?_getD, hy]; rfl
      have := k H' (Ex.refl _)
      rw [ex, ey] at this
      exact g_pair (st_of hT') this
    · rw [hps.length]; have := ok.few; omega
    · have hi1 : i < ps.length := by omega
      have hi2 : i + 1 < ps.length := by omega
      obtain ⟨e, he, a1, ea1, ha1⟩ := pget hps2 (List.getElem?_eq_getElem hi1)
      obtain ⟨f', hf, a2, ea2, ha2⟩ := pget hps2 (List.getElem?_eq_getElem hi2)
      have x1 : ps.getD i .non = V.ref a1 := by rw [List.getD_eq_getElem?_getD, List.getElem?_eq_getElem hi1]; exact ea1
      have x2 : ps.getD (i + 1) .non = V.ref a2 := by rw [List.getD_eq_getElem?_getD, List.getElem?_eq_getElem hi2]; exact ea2
      have lt : ltE e f' := by
        obtain ⟨j1, q1⟩ := List.getElem?_eq_some_iff.mp he
        obtain ⟨j2, q2⟩ := List.getElem?_eq_some_iff.mp hf
        rw [← q1, ← q2]
        exact List.pairwise_iff_getElem.mp ok.asc i (i + 1) j1 j2 (by omega)
      refine ev_op (x := .ref a1) (y := .ref a2) (ev_var ?_) (ev_var ?_) fun H4 e4 Q4 q4 => ⟨a1, a2, [(e.1 : Int), (e.2 : Int)], [(f'.1 : Int), (f'.2 : Int)], rfl, rfl, st_of (e4 _ _ (e3 _ _ ha1)), st_of (e4 _ _ (e3 _ _ ha2)), by rw [lexLt_pair lt]; exact q4 H4 (Ex.refl _)⟩
      · rw [← x1]; rfl
      · rw [← x2]; rfl
end
end Tr
end
section
set_option linter.all false
/-! webs: neighbors. Plain Lean. -/
namespace Tr
/-- joined by a hedge -/
def Adj (es : List (Nat × Nat)) (u v : Nat) : Prop := (u, v) ∈ es ∨ (v, u) ∈ es
theorem Adj.symm {es : List (Nat × Nat)} {u v : Nat} (h : Adj es u v) : Adj es v u := h.elim .inr .inl
/-- the neighbors of i, in the hedges' order -/
def nb (es : List (Nat × Nat)) (i : Nat) : List Nat := es.flatMap fun e => if e.1 = i then [e.2] else if e.2 = i then [e.1] else []
theorem nb_nil (i : Nat) : nb [] i = [] := rfl
theorem nb_snoc (es : List (Nat × Nat)) (e : Nat × Nat) (i : Nat) : nb (es ++ [e]) i = nb es i ++ (if e.1 = i then [e.2] else if e.2 = i then [e.1] else []) := by
  unfold nb
  rw [List.flatMap_append]
  simp
theorem nb_len (es : List (Nat × Nat)) (i : Nat) : (nb es i).length ≤ es.length := by
  unfold nb
  induction es with
  | nil => simp
  | cons e r ih =>
    rw [List.flatMap_cons, List.length_append, List.length_cons]
    have : (if e.1 = i then [e.2] else if e.2 = i then [e.1] else []).length ≤ 1 := by
      split
      · simp
      · split <;> simp
    omega
theorem mem_nb {es : List (Nat × Nat)} {i j : Nat} : j ∈ nb es i ↔ Adj es i j := by
  unfold nb Adj
  rw [List.mem_flatMap]
  constructor
  · rintro ⟨⟨a, b⟩, h1, h2⟩
    dsimp only at h2
    split at h2
    · rename_i q
      left; rw [List.mem_singleton] at h2; subst q h2; exact h1
    · split at h2
      · rename_i q
        right; rw [List.mem_singleton] at h2; subst q h2; exact h1
      · simp at h2
  · rintro (h | h)
    · exact ⟨(i, j), h, by simp⟩
    · refine ⟨(j, i), h, ?_⟩
      dsimp only
      split
      · rename_i q; subst q; simp
      · simp
/-- casts of fields -/
theorem nat_perm {ns : List Int} {xs : List Nat} (h : ns.Perm (xs.map fun k : Nat => (k : Int))) : ∃ ys : List Nat, ns = ys.map (fun k : Nat => (k : Int)) ∧ ys.Perm xs := by
  refine ⟨ns.map Int.toNat, ?_, ?_⟩
  · rw [List.map_map]
    have : ∀ z ∈ ns, ((fun k : Nat => (k : Int)) ∘ Int.toNat) z = z := fun z hz => by
      obtain ⟨k, _, e⟩ := List.mem_map.mp (h.mem_iff.mp hz)
      show ((z.toNat : Nat) : Int) = z
      omega
    rw [List.map_congr_left this, List.map_id']
  · have := h.map Int.toNat
    rw [List.map_map] at this
    have e : xs.map (Int.toNat ∘ fun k : Nat => (k : Int)) = xs := by
      have : ∀ z ∈ xs, (Int.toNat ∘ fun k : Nat => (k : Int)) z = z := fun z _ => by show ((z : Int)).toNat = z; omega
      rw [List.map_congr_left this, List.map_id']
    rw [e] at this
    exact this
end Tr
end
section
set_option Elab.async false
set_option linter.all false
set_option maxRecDepth 100000
set_option maxHeartbeats 4000000
namespace Tr
open PySem PySem.Spec PyProof.Rows L2 Evl
/-! ### nears_of, _law_nears: one body -/
/-- the rows of neighbors, each in some order -/
def NearsR (S : Hp) (r : V) (n : Nat) (es : List (Nat × Nat)) : Prop := ∃ xss : List (List Nat), RowsV S r xss ∧ xss.length = n ∧ ∀ (k : Nat) (xs : List Nat), xss[k]? = some xs → xs.Perm (nb es k)
theorem NearsR.mono {S S' : Hp} {r : V} {n : Nat} {es : List (Nat × Nat)} (e : Ex S S') (h : NearsR S r n es) : NearsR S' r n es := let ⟨x, h1, h2⟩ := h; ⟨x, h1.mono e, h2⟩
/-- the hedges of n fields -/
structure EdgesOk (n : Nat) (es : List (Nat × Nat)) : Prop where
  hi : n ≤ 60
  few : es.length ≤ 60
  ok : ∀ e ∈ es, e.1 < e.2 ∧ e.2 < n
theorem FormOk.edges {n : Nat} {es : List (Nat × Nat)} (h : FormOk n es) : EdgesOk n es := ⟨h.hi, h.few, h.ok⟩
def t_nears (K : PySem.W.Frag) : TS := tSeq (tAsg (tLc (iRng1 (tCons (tOp (rIxT K) (tVar 0) (tC (.int 0))) tNil)) (gName 4) tYes (tLst tNil) [4]) (gName 1))
  (tSeq (tFor (iTup K (tOp (rIxT K) (tVar 0) (tC (.int 1)))) (gTup K 2 (gCons (gName 2) (gCons (gName 3) gNil)))
    (tSeq (tDrop (tBM K "list" rAppend (tOp (rIxL K) (tVar 1) (tVar 2)) (tCons (tVar 3) tNil))) (tDrop (tBM K "list" rAppend (tOp (rIxL K) (tVar 1) (tVar 3)) (tCons (tVar 2) tNil)))))
  (tRet (tLc (iList K (tVar 1)) (gName 5) tYes (tCB (rSorted K) (tCons (tVar 5) tNil)) [5])))
theorem take_succ_nb {es : List (Nat × Nat)} {i : Nat} {e : Nat × Nat} (h : es[i]? = some e) (k : Nat) : nb (es.take (i + 1)) k = nb (es.take i) k ++ (if e.1 = k then [e.2] else if e.2 = k then [e.1] else []) := by
  rw [List.take_add_one, h, Option.toList_some, nb_snoc]
theorem nV_snoc (xs : List Nat) (k : Nat) : nV (xs ++ [k]) = nV xs ++ [.int (k : Int)] := by unfold nV; rw [List.map_append]; rfl
theorem rd_nears {K : PySem.W.Frag} {S H : Hp} {v : V} {n : Nat} {es : List (Nat × Nat)} {Q : VK} {nx : L2.St → Hp → Prop} (eH : Ex S H) (hW : WebV S v n es) (ok : EdgesOk n es) (q : RetG S H (fun r S' => NearsR S' r n es) Q) :
    t_nears K { nx := nx, rt := Q } [some v, none, none, none, none, none] H := by
  obtain ⟨b, hT, ps, hB, hps⟩ := hW
  have hn : n ≤ 100000 := by have := ok.hi; omega
  refine q_asgG (P := fun r S' => ∃ (a : Addr) (ts : List Addr), r = .ref a ∧ S a = none ∧ S' a = some (.lst (ts.map V.ref)) ∧ ts.length = n ∧ ts.Nodup ∧ ∀ t ∈ ts, S' t = some (.lst []) ∧ S t = none) ?_ eH ?_
  · refine lc_turns (n := n) (turns_rng1 (ea_cons (ev_ixT (j := 0) (ev_var rfl) ev_c hT rfl) ea_nil) (by omega)) (fun i _ => set1_wipe _ _ _) (fun i acc S' => ∃ ts : List Addr, acc = ts.map V.ref ∧ ts.length = i ∧ ts.Nodup ∧ ∀ t ∈ ts, S' t = some (.lst []) ∧ S t = none) hn
      (fun _ _ => ⟨[], rfl, rfl, List.nodup_nil, fun t ht => nomatch ht⟩) (fun i acc S' ⟨ts, e, l, _⟩ => by rw [e, List.length_map, l]; exact Nat.le_refl _) (fun i acc A B e ⟨ts, h1, h2, h3, h4⟩ => ⟨ts, h1, h2, h3, fun t ht => ⟨e _ _ (h4 t ht).1, (h4 t ht).2⟩⟩)
      (fun i acc S1 hi e1 ⟨ts, h1, h2, h3, h4⟩ => ⟨true, et_yes, fun _ => ?_, fun q => nomatch q⟩) (fun p acc S1 e1 hp h1 ⟨ts, h2, h3, h4, h5⟩ => ⟨p, ts, rfl, hp, by rw [h1, h2], h3, h4, h5⟩)
    intro H1 eH1 Q1 q1
    refine ⟨Nat.zero_le _, fun t ht => q1 (.ref t) (upd S1 t (.lst [])) _ (Gr.new eH1 ht) ⟨ts ++ [t], by rw [h1, List.map_append]; rfl, by rw [List.length_append, h2]; rfl, ?_, fun u hu => ?_⟩⟩
    · have hs1 : S1 t = none := fresh_back eH1 ht
      refine List.nodup_append.mpr ⟨h3, by simp, fun x hx y hy => ?_⟩
      rw [List.mem_singleton] at hy
      rw [hy]
      exact ne_of_none (h4 x hx).1 hs1
    · have hs1 : S1 t = none := fresh_back eH1 ht
      rcases List.mem_append.mp hu with hu | hu
      · exact ⟨Ex.new hs1 _ _ (h4 u hu).1, (h4 u hu).2⟩
      · rw [List.mem_singleton] at hu
        subst hu
        exact ⟨upd_same, fresh_back e1 hs1⟩
  intro r S1 H1 g1 ⟨a, ts, er, ha, hS1a, hl, hnd, hts⟩
  subst er
  have fr1 : ∀ t o, S1 t = some o → S t = none → H t = none := fun t o h1 h2 => by
    cases qq : H t with
    | none => rfl
    | some u => rw [g1.f t h2 (by rw [qq]; simp)] at h1; cases h1
  have hHa : H a = none := fr1 a _ hS1a ha
  have hHt : ∀ t ∈ ts, H t = none := fun t ht => fr1 t _ (hts t ht).1 (hts t ht).2
  have g2 : Gr [] S H (upd S a (.lst (ts.map V.ref))) H1 := (Gr.of_ex eH g1.ex).fix hHa (g1.i _ _ hS1a)
  have hSt : ∀ t ∈ ts, (upd S a (.lst (ts.map V.ref))) t = none := fun t ht => by
    have ne : t ≠ a := fun z => by
      have h1 := (hts t ht).1
      rw [z, hS1a] at h1
      have h2 := congrArg (fun o => match o with | some (HO.lst xs) => xs.length | _ => 0) h1
      simp at h2
      have : ts = [] := h2
      rw [this] at ht; cases ht
    rw [upd_ne ne]
    exact (hts t ht).2
  have hlen : ts.length = n := hl
  have hlp : ps.length = es.length := hps.length
  obtain ⟨ab, eb, hab⟩ := id hB
  generalize hS2 : upd S a (.lst (ts.map V.ref)) = S2 at g2 hSt
  have hS2a : S2 a = some (.lst (ts.map V.ref)) := by rw [← hS2]; exact upd_same
  have eS2 : Ex S S2 := g2.s
  show tSeq (tFor _ _ _) _ _ [some v, some (.ref a), none, none, none, none] H1
  refine for_turns (n := ps.length) (u := fun i σ' => (σ'.set 2 (some (.int ((es.getD i (0, 0)).1 : Int)))).set 3 (some (.int ((es.getD i (0, 0)).2 : Int))))
    (turns_tup (xs := ps) (a := ab) (by rw [← eb]; exact ev_ixT (j := 1) (ev_var rfl) ev_c (hT.mono eS2) rfl) (st_of (eS2 _ _ hab)) ?_ _ g2.i)
    (fun S3 i σ' H' => ∃ y2 y3, σ' = [some v, some (.ref a), y2, y3, none, none] ∧ Gr [] S H S3 H' ∧ Ex S2 S3 ∧ (∀ t ∈ ts, S3 t = none) ∧ ∀ k t, ts[k]? = some t → H' t = some (.lst (nV (nb (es.take i) k))))
    (fun S3 H3 g3 => ⟨none, none, rfl, g2.trans g3, g3.s, fun t ht => g3.f t (hSt t ht) (by rw [g1.i _ _ (hts t ht).1]; simp), fun k t hk => g3.ex _ _ (g1.i _ _ (hts t (List.mem_of_getElem? hk)).1)⟩) (fun S3 i σ' H' ⟨_, _, _, gg, _⟩ => gg.i) ?_ ?_
  · -- the target
    intro i x H' σ' Q' hx e' k
    obtain ⟨e, he, ae, hae, hta⟩ := pget (hps.mono fun _ _ z => z.mono eS2) hx
    subst hae
    have ee : es.getD i (0, 0) = e := by rw [List.getD_eq_getElem?_getD, he]; rfl
    have := k H' (Ex.refl _)
    rw [ee] at this
    exact g_pair (st_of (e' _ _ hta)) this
  · -- a turn
    rintro S3 i σ' H' hi ⟨y2, y3, rfl, gg, e23, hS3, hc⟩ H4 e4
    obtain ⟨e, he⟩ : ∃ e, es[i]? = some e := ⟨es[i]'(by omega), List.getElem?_eq_getElem (by omega)⟩
    have ee : es.getD i (0, 0) = e := by rw [List.getD_eq_getElem?_getD, he]; rfl
    have hok := ok.ok e (List.mem_of_getElem? he)
    rw [ee]
    obtain ⟨t1, ht1⟩ : ∃ t, ts[e.1]? = some t := ⟨ts[e.1]'(by omega), List.getElem?_eq_getElem (by omega)⟩
    obtain ⟨t2, ht2⟩ : ∃ t, ts[e.2]? = some t := ⟨ts[e.2]'(by omega), List.getElem?_eq_getElem (by omega)⟩
    have m1 := List.mem_of_getElem? ht1
    have m2 := List.mem_of_getElem? ht2
    have n12 : ∀ k t, ts[k]? = some t → ∀ k' t', ts[k']? = some t' → k ≠ k' → t ≠ t' := fun k t h k' t' h' hne z => by
      subst z
      exact hne (nd_ix hnd h h')
    have gg4 : Gr [] S H S3 H4 := gg.trans (Gr.of_ex gg.i e4)
    have row : ∀ {H'' : Hp} (k : Nat) (t : Addr), Ex S3 H'' → ts[k]? = some t → ∀ (j : Nat), ([some v, some (.ref a), some (.int (e.1 : Int)), some (.int (e.2 : Int)), none, none] : L2.St)[j]? = some (some (.int (k : Int))) → Ev (tOp (rIxL K) (tVar 1) (tVar j)) [some v, some (.ref a), some (.int (e.1 : Int)), some (.int (e.2 : Int)), none, none] H'' (.ref t) := fun k t e' hk j hj =>
      ev_ixL (x := .ref a) (xs := ts.map V.ref) (ev_var rfl) (ev_var hj) ⟨a, rfl, e' _ _ (e23 _ _ hS2a)⟩ (by rw [List.getElem?_map, hk]; rfl)
    have few : ∀ k, (nV (nb (es.take i) k)).length < 100000 := fun k => by
      rw [nV_len]
      have := nb_len (es.take i) k
      have := List.length_take_le i es
      have := ok.few
      omega
    show tSeq (tDrop _) (tDrop _) _ [some v, some (.ref a), some (.int (e.1 : Int)), some (.int (e.2 : Int)), none, none] H4
    refine q_app (l := t1) (e4 _ _ (hc e.1 t1 ht1)) (row e.1 t1 gg4.i ht1 2 rfl) (ev_var (v := .int (e.2 : Int)) rfl) (few e.1) (fun H5 e5 => ?_)
    have gg5 : Gr [] S H S3 (upd H5 t1 (.lst (nV (nb (es.take i) e.1) ++ [.int (e.2 : Int)]))) := (gg4.trans (Gr.of_ex gg4.i e5)).put (.inl (hHt t1 m1)) (hS3 t1 m1)
    refine s_app (l := t2) (xs := nV (nb (es.take i) e.2)) ?_ (row e.2 t2 gg5.i ht2 3 rfl) (ev_var (v := .int (e.1 : Int)) rfl) (few e.2) (fun H6 e6 => ?_)
    · rw [upd_ne (n12 _ _ ht2 _ _ ht1 (by omega))]
      exact e5 _ _ (e4 _ _ (hc e.2 t2 ht2))
    · refine ⟨_, _, rfl, (gg5.trans (Gr.of_ex gg5.i e6)).put (.inl (hHt t2 m2)) (hS3 t2 m2), e23, hS3, fun k t hk => ?_⟩
      rw [take_succ_nb he]
      by_cases k2 : k = e.2
      · subst k2
        rw [ht2] at hk; cases hk
        rw [upd_same, if_neg (by omega), if_pos rfl, nV_snoc]
      · rw [upd_ne (n12 _ _ hk _ _ ht2 k2)]
        by_cases k1 : k = e.1
        · subst k1
          rw [ht1] at hk; cases hk
          rw [if_pos rfl, nV_snoc]
          exact e6 _ _ upd_same
        · rw [if_neg (fun z => k1 z.symm), if_neg (fun z => k2 z.symm), List.append_nil]
          refine e6 _ _ ?_
          rw [upd_ne (n12 _ _ hk _ _ ht1 k1)]
          exact e5 _ _ (e4 _ _ (hc k t hk))
  · -- return [sorted(told) for told in found]
    rintro S3 σ' H' ⟨y2, y3, rfl, gg, e23, hS3, hc⟩
    rw [hlp, List.take_length] at hc
    have gc := gg.close eH
    generalize hSc : Gr.all S H H' = Sc at gc
    have hca : Sc a = some (.lst (ts.map V.ref)) := by rw [← hSc, Gr.all_new hHa]; exact gg.i _ _ (e23 _ _ hS2a)
    have hct : ∀ k t, ts[k]? = some t → Sc t = some (.lst (nV (nb es k))) := fun k t hk => by
      rw [← hSc, Gr.all_new (hHt t (List.mem_of_getElem? hk))]; exact hc k t hk
    show tRet (tLc (iList K (tVar 1)) (gName 5) tYes (tCB (rSorted K) (tCons (tVar 5) tNil)) [5]) { nx := nx, rt := Q } [some v, some (V.ref a), y2, y3, none, none] H'
    refine s_retG (D := { nx := nx, rt := Q }) (P := fun r S' => NearsR S' r n es) ?_ gc.i (fun r S4 H4 g4 p => q r S4 H4 (gc.trans g4) p)
    refine lc_turns (n := ts.length) (u := fun i σ' => σ'.set 5 (some ((ts.map V.ref).getD i .non))) (by
        have := turns_list (K := K) (σ := [some v, some (.ref a), y2, y3, none, none]) (S := Sc) (a := a) (xs := ts.map V.ref) (tl := tVar 1) (g := gName 5) (u := fun i σ' => σ'.set 5 (some ((ts.map V.ref).getD i .non))) (ev_var rfl) (sq_of hca) (fun i x H' σ' Q' hx _ k => by
          have ex : (ts.map V.ref).getD i .non = x := by rw [List.getD_eq_getElem?_getD, hx]; rfl
          have := k H' (Ex.refl _)
          rw [ex] at this
          exact this)
        rw [List.length_map] at this
        exact this) (fun i _ => set1_wipe _ _ _)
      (fun i acc S' => ∃ xss : List (List Nat), Paired (fun x xs => LstA S' x (nV xs)) acc xss ∧ xss.length = i ∧ ∀ (k : Nat) (xs : List Nat), xss[k]? = some xs → xs.Perm (nb es k)) (by omega)
      (fun _ _ => ⟨[], .nil, rfl, fun k xs h => by simp at h⟩) (fun i acc S' ⟨xss, h1, h2, _⟩ => by rw [h1.length, h2]; exact Nat.le_refl _)
      (fun i acc A B e ⟨xss, h1, h2, h3⟩ => ⟨xss, h1.mono fun _ _ z => z.mono e, h2, h3⟩)
      (fun i acc S5 hi e5 ⟨xss, h1, h2, h3⟩ => ⟨true, et_yes, fun _ => ?_, fun z => nomatch z⟩)
      (fun p acc S5 e5 _ hp ⟨xss, h1, h2, h3⟩ => ⟨xss, ⟨acc, ⟨p, rfl, hp⟩, h1⟩, by rw [h2, hlen], h3⟩)
    have hti : ts[i]? = some ts[i] := List.getElem?_eq_getElem hi
    have exi : (ts.map V.ref).getD i .non = .ref ts[i] := by rw [List.getD_eq_getElem?_getD, List.getElem?_map, hti]; rfl
    have hci := hct i ts[i] hti
    intro H5 e6 Q5 q5
    refine ⟨.ref ts[i], (by rw [exi]; rfl), ts[i], (nb es i).map fun k : Nat => (k : Int), rfl, sq_of (e6 _ _ (e5 _ _ (by rw [hci, nV_iV]; rfl))), ?_, fun ns' p hperm hsort hp => ?_⟩
    · rw [List.length_map]
      have := nb_len es i
      have := ok.few
      omega
    · obtain ⟨ys, rfl, hys⟩ := nat_perm hperm
      have hp5 : S5 p = none := fresh_back e6 hp
      refine q5 (.ref p) (upd S5 p (.lst (nV ys))) _ ?_ ⟨xss ++ [ys], ?_, by rw [List.length_append, h2]; rfl, fun k xs hk => ?_⟩
      · have := Gr.new (M := []) (o := .lst (nV ys)) e6 hp
        rw [nV_iV] at this ⊢
        exact this
      · exact Paired.snoc (h1.mono fun _ _ z => z.mono (Ex.new hp5)) ⟨p, rfl, upd_same⟩
      · by_cases hk' : k < xss.length
        · rw [List.getElem?_append_left hk'] at hk
          exact h3 k xs hk
        · rw [List.getElem?_append_right (by omega)] at hk
          have e0 : k - xss.length = 0 := by
            cases z : k - xss.length with
            | zero => rfl
            | succ m => rw [z] at hk; simp at hk
          rw [e0] at hk
          have : k = i := by omega
          rw [this]
          simp at hk
          rw [← hk]; exact hys
section
variable {P : Program} {w : World} {K : PySem.W.Frag} {mg : Str → Option Value} {base : Heap}
def sp_nears : Sp := fun vs H Q _ => ∃ (S : Hp) (v : V) (n : Nat) (es : List (Nat × Nat)), vs = [v] ∧ Ex S H ∧ WebV S v n es ∧ EdgesOk n es ∧ RetG S H (fun r S' => NearsR S' r n es) Q
theorem ok_nears_of (T : Tx K mg) : OkD P w K mg base 1 "nears_of" ["web"] sp_nears := by
  refine mk_nears_of T (fun vs H Q E h => ?_) (fun f cdv A outer s H vs Q E hr h => ?_)
  · obtain ⟨S, v, n, es, rfl, _⟩ := h
    rfl
  · obtain ⟨S, v, n, es, rfl, eH, hW, ok, q⟩ := h
    exact ⟨t_nears K, (pss_cons (ps_setLc (i := 1) (own := [("field", 4)]) (g := (gName 4)) rfl sc_nears_of.nd rfl rfl (sw_true rfl rfl rfl (by decide +kernel)) (pi_range1 (by rfl) T.b_range (pa_cons (pe_ix (ixTK K) (pv 0) pe_int (fun _ _ => rfl)) pa_nil)) (blkOk_by (own := [("field", 4)]) (N := N_nears_of) (sc := defScope s_nears_of) (by decide +kernel)) (fun _ _ _ _ _ => (pg_name (i := 4) sc_nears_of.nd rfl (Or.inl rfl))) (fun _ _ _ _ _ => pts_nil) (fun _ _ _ _ _ => (pe_lst pa_nil)))
    (pss_cons (ps_for PassesOwn.never rfl (piTK K (pe_ix (ixTK K) (pv 0) pe_int (fun _ _ => rfl))) (pg_tup rfl (pgs_cons (pg_name (i := 2) sc_nears_of.nd rfl (Or.inl rfl)) (pgs_cons (pg_name (i := 3) sc_nears_of.nd rfl (Or.inl rfl)) pgs_nil)))
      (pss_cons (ps_expr (pe_bm PySem.F.plainAttrs_list PySem.F.slot_list_append PySem.F.type_list_append mt_append (pe_ix (ixLK K) (pv 1) (pv 2) (fun _ _ => rfl)) (pa_cons (pv 3) pa_nil)))
    (pss_one (ps_expr (pe_bm PySem.F.plainAttrs_list PySem.F.slot_list_append PySem.F.type_list_append mt_append (pe_ix (ixLK K) (pv 1) (pv 3) (fun _ _ => rfl)) (pa_cons (pv 2) pa_nil))))))
    (pss_one (ps_ret (pe_lc (own := [("told", 5)]) (g := (gName 5)) rfl sc_nears_of.nd (piLK K (pv 1)) (blkOk_by (own := [("told", 5)]) (N := N_nears_of) (sc := defScope s_nears_of) (by decide +kernel)) (fun _ _ _ _ _ => (pg_name (i := 5) sc_nears_of.nd rfl (Or.inl rfl))) (fun _ _ _ _ _ => pts_nil) (fun _ _ _ _ _ => (pe_callB (sortedK K) (by rfl) T.b_sorted (by decide +kernel) (pa_cons (pv 5) pa_nil)))))))), rd_nears eH hW ok q⟩
theorem ok__law_nears (T : Tx K mg) : OkD P w K mg base 1 "_law_nears" ["_law_web_here"] sp_nears := by
  refine mk__law_nears T (fun vs H Q E h => ?_) (fun f cdv A outer s H vs Q E hr h => ?_)
  · obtain ⟨S, v, n, es, rfl, _⟩ := h
    rfl
  · obtain ⟨S, v, n, es, rfl, eH, hW, ok, q⟩ := h
    exact ⟨t_nears K, (pss_cons (ps_setLc (i := 1) (own := [("_law_field", 4)]) (g := (gName 4)) rfl sc__law_nears.nd rfl rfl (sw_true rfl rfl rfl (by decide +kernel)) (pi_range1 (by rfl) T.b_range (pa_cons (pe_ix (ixTK K) (pv 0) pe_int (fun _ _ => rfl)) pa_nil)) (blkOk_by (own := [("_law_field", 4)]) (N := N__law_nears) (sc := defScope s__law_nears) (by decide +kernel)) (fun _ _ _ _ _ => (pg_name (i := 4) sc__law_nears.nd rfl (Or.inl rfl))) (fun _ _ _ _ _ => pts_nil) (fun _ _ _ _ _ => (pe_lst pa_nil)))
    (pss_cons (ps_for PassesOwn.never rfl (piTK K (pe_ix (ixTK K) (pv 0) pe_int (fun _ _ => rfl))) (pg_tup rfl (pgs_cons (pg_name (i := 2) sc__law_nears.nd rfl (Or.inl rfl)) (pgs_cons (pg_name (i := 3) sc__law_nears.nd rfl (Or.inl rfl)) pgs_nil)))
      (pss_cons (ps_expr (pe_bm PySem.F.plainAttrs_list PySem.F.slot_list_append PySem.F.type_list_append mt_append (pe_ix (ixLK K) (pv 1) (pv 2) (fun _ _ => rfl)) (pa_cons (pv 3) pa_nil)))
    (pss_one (ps_expr (pe_bm PySem.F.plainAttrs_list PySem.F.slot_list_append PySem.F.type_list_append mt_append (pe_ix (ixLK K) (pv 1) (pv 3) (fun _ _ => rfl)) (pa_cons (pv 2) pa_nil))))))
    (pss_one (ps_ret (pe_lc (own := [("_law_told", 5)]) (g := (gName 5)) rfl sc__law_nears.nd (piLK K (pv 1)) (blkOk_by (own := [("_law_told", 5)]) (N := N__law_nears) (sc := defScope s__law_nears) (by decide +kernel)) (fun _ _ _ _ _ => (pg_name (i := 5) sc__law_nears.nd rfl (Or.inl rfl))) (fun _ _ _ _ _ => pts_nil) (fun _ _ _ _ _ => (pe_callB (sortedK K) (by rfl) T.b_sorted (by decide +kernel) (pa_cons (pv 5) pa_nil)))))))), rd_nears eH hW ok q⟩
theorem sp_nears_ok {S : Hp} {v : V} {n : Nat} {es : List (Nat × Nat)} (hW : WebV S v n es) (ok : EdgesOk n es) : SpG sp_nears ([v] ++ []) S fun r S' => NearsR S' r n es := fun H e Q E q => ⟨S, v, n, es, rfl, e, hW, ok, q⟩
end
end Tr
end
section
set_option linter.all false
/-! a search along a line. Plain Lean. -/
namespace Tr
theorem nodup_lt : ∀ (n : Nat) (l : List Nat), l.Nodup → (∀ x ∈ l, x < n) → l.length ≤ n
  | 0, l, _, h => by
    cases l with
    | nil => simp
    | cons a r => exact absurd (h a (by simp)) (by omega)
  | n + 1, l, hn, h => by
    have h1 := nodup_lt n (l.erase n) (hn.erase n) (fun x hx => by
      have hx1 : x ∈ l := List.mem_of_mem_erase hx
      have := h x hx1
      have : x ≠ n := fun e => by
        subst e
        exact (List.Nodup.not_mem_erase hn) hx
      omega)
    have h2 : l.length ≤ (l.erase n).length + 1 := by
      rw [List.length_erase]
      split <;> omega
    omega
/-- everything hangs together -/
def Conn (es : List (Nat × Nat)) (n : Nat) : Prop := ∀ Q : Nat → Prop, (∃ s, s < n ∧ Q s) → (∀ u v, Adj es u v → Q u → Q v) → ∀ v, v < n → Q v
/-- distances along hedges, up to their least -/
structure DistW (es : List (Nat × Nat)) (n s : Nat) (d : Nat → Nat) : Prop where
  zero : d s = 0
  up : ∀ v, v < n → v ≠ s → ∃ u, u < n ∧ Adj es u v ∧ d v = d u + 1
structure BfsInv (es : List (Nat × Nat)) (n s : Nat) (d : Nat → Option Nat) (line : List Nat) (at_ : Nat) : Prop where
  nodup : line.Nodup
  lt : ∀ v ∈ line, v < n
  hd : s ∈ line
  iff : ∀ v, d v ≠ none ↔ v ∈ line
  s0 : d s = some 0
  par : ∀ v ∈ line, v ≠ s → ∃ u k, u < n ∧ Adj es u v ∧ d u = some k ∧ d v = some (k + 1)
  cl : ∀ j, j < at_ → ∀ u, line[j]? = some u → ∀ v, Adj es u v → v ∈ line
  le : at_ ≤ line.length
def updF {α : Type} (d : Nat → α) (v : Nat) (x : α) : Nat → α := fun j => if j = v then x else d j
theorem updF_same {α : Type} {d : Nat → α} {v : Nat} {x : α} : updF d v x v = x := by unfold updF; rw [if_pos rfl]
theorem updF_ne {α : Type} {d : Nat → α} {v j : Nat} {x : α} (h : j ≠ v) : updF d v x j = d j := by unfold updF; rw [if_neg h]
theorem tab_set {α : Type} (n : Nat) (f : Nat → α) (v : Nat) (x : α) : ((List.range n).map f).set v x = (List.range n).map (updF f v x) := by
  apply List.ext_getElem?
  intro i
  rw [List.getElem?_set]
  by_cases h : v = i
  · subst h
    rw [if_pos rfl, List.length_map, List.length_range]
    by_cases hv : v < n
    · rw [if_pos hv, List.getElem?_map, List.getElem?_range hv]
      show some x = some (updF f v x v)
      rw [updF_same]
    · rw [if_neg hv, List.getElem?_eq_none (by rw [List.length_map, List.length_range]; omega)]
  · rw [if_neg h, List.getElem?_map, List.getElem?_map]
    by_cases hi : i < n
    · rw [List.getElem?_range hi]
      show some (f i) = some (updF f v x i)
      rw [updF_ne (Ne.symm h)]
    · rw [List.getElem?_eq_none (by rw [List.length_range]; omega)]; rfl
theorem tab_get {α : Type} {n : Nat} {f : Nat → α} {i : Nat} (h : i < n) : ((List.range n).map f)[i]? = some (f i) := by
  rw [List.getElem?_map, List.getElem?_range h]; rfl
theorem BfsInv.start {es : List (Nat × Nat)} {n s : Nat} (h : s < n) : BfsInv es n s (updF (fun _ => none) s (some 0)) [s] 0 where
  nodup := by simp
  lt := fun v hv => by rw [List.mem_singleton] at hv; rw [hv]; exact h
  hd := by simp
  iff := fun v => by
    rw [List.mem_singleton]
    by_cases e : v = s
    · subst e; rw [updF_same]; simp
    · rw [updF_ne e]; simp [e]
  s0 := updF_same
  par := fun v hv hne => absurd (List.mem_singleton.mp hv) hne
  cl := fun j hj => absurd hj (by omega)
  le := by simp
theorem BfsInv.add {es : List (Nat × Nat)} {n s : Nat} {d : Nat → Option Nat} {line : List Nat} {at_ c k v : Nat} (I : BfsInv es n s d line at_) (hc : line[at_]? = some c) (hk : d c = some k) (ha : Adj es c v) (hv : v < n) (hd : d v = none) :
    BfsInv es n s (updF d v (some (k + 1))) (line ++ [v]) at_ := by
  have hnv : v ∉ line := fun h => (I.iff v).mpr h hd
  have ne : ∀ u ∈ line, u ≠ v := fun u hu e => hnv (e ▸ hu)
  have keep : ∀ u x, d u = some x → updF d v (some (k + 1)) u = some x := fun u x hu => by
    rw [updF_ne (ne u ((I.iff u).mp (by rw [hu]; simp)))]; exact hu
  refine ⟨?_, fun u hu => ?_, List.mem_append_left _ I.hd, fun u => ?_, keep _ _ I.s0, fun u hu hne => ?_, fun j hj u hu w hw => ?_, ?_⟩
  · refine List.nodup_append.mpr ⟨I.nodup, by simp, fun x hx y hy => ?_⟩
    rw [List.mem_singleton] at hy
    rw [hy]; exact ne x hx
  · rcases List.mem_append.mp hu with hu | hu
    · exact I.lt u hu
    · rw [List.mem_singleton] at hu; rw [hu]; exact hv
  · by_cases e : u = v
    · subst e; rw [updF_same]; simp
    · rw [updF_ne e, I.iff u]; simp [e]
  · rcases List.mem_append.mp hu with hu | hu
    · obtain ⟨w, x, h1, h2, h3, h4⟩ := I.par u hu hne
      exact ⟨w, x, h1, h2, keep _ _ h3, keep _ _ h4⟩
    · rw [List.mem_singleton] at hu
      subst hu
      exact ⟨c, k, I.lt c (List.mem_of_getElem? hc), ha, keep _ _ hk, updF_same⟩
  · have hl := I.le
    rw [List.getElem?_append_left (by omega)] at hu
    exact List.mem_append_left _ (I.cl j hj u hu w hw)
  · rw [List.length_append]; have := I.le; simp; omega
theorem BfsInv.step {es : List (Nat × Nat)} {n s : Nat} {d : Nat → Option Nat} {line : List Nat} {at_ c : Nat} (I : BfsInv es n s d line at_) (hc : line[at_]? = some c) (h : ∀ v, Adj es c v → d v ≠ none) : BfsInv es n s d line (at_ + 1) :=
  ⟨I.nodup, I.lt, I.hd, I.iff, I.s0, I.par, fun j hj u hu w hw => by
    by_cases e : j = at_
    · subst e
      rw [hc] at hu; cases hu
      exact (I.iff w).mp (h w hw)
    · exact I.cl j (by omega) u hu w hw, by
    obtain ⟨h1, _⟩ := List.getElem?_eq_some_iff.mp hc
    omega⟩
theorem BfsInv.len {es : List (Nat × Nat)} {n s : Nat} {d : Nat → Option Nat} {line : List Nat} {at_ : Nat} (I : BfsInv es n s d line at_) : line.length ≤ n := nodup_lt n line I.nodup I.lt
theorem BfsInv.fin {es : List (Nat × Nat)} {n s : Nat} {d : Nat → Option Nat} {line : List Nat} {at_ : Nat} (I : BfsInv es n s d line at_) (hC : Conn es n) (he : line.length ≤ at_) : ∃ f : Nat → Nat, (∀ v, v < n → d v = some (f v)) ∧ DistW es n s f := by
  have all : ∀ v, v < n → v ∈ line := hC (fun v => v ∈ line) ⟨s, I.lt s I.hd, I.hd⟩ fun u v ha hu => by
    obtain ⟨j, hj, e⟩ := List.getElem_of_mem hu
    exact I.cl j (by omega) u (by rw [List.getElem?_eq_getElem hj, e]) v ha
  have key : ∀ v, v < n → d v = some ((d v).getD 0) := fun v hv => by
    have := (I.iff v).mpr (all v hv)
    cases q : d v with
    | none => exact absurd q this
    | some x => rfl
  refine ⟨fun v => (d v).getD 0, key, ?_, fun v hv hne => ?_⟩
  · show (d s).getD 0 = 0
    rw [I.s0]; rfl
  · obtain ⟨u, k, h1, h2, h3, h4⟩ := I.par v (all v hv) hne
    refine ⟨u, h1, h2, ?_⟩
    show (d v).getD 0 = (d u).getD 0 + 1
    rw [h3, h4]; rfl
end Tr
end
section
set_option Elab.async false
set_option linter.all false
set_option maxRecDepth 100000
set_option maxHeartbeats 4000000
namespace Tr
open PySem PySem.Spec PyProof.Rows L2 Evl
def optV : Option Nat → V
  | none => .non
  | some k => .int (k : Int)
def fV (n : Nat) (d : Nat → Option Nat) : List V := (List.range n).map fun v => optV (d v)
theorem fV_set (n : Nat) (d : Nat → Option Nat) (v k : Nat) : (fV n d).set v (.int (k : Int)) = fV n (updF d v (some k)) := by
  unfold fV
  rw [tab_set]
  apply List.map_congr_left
  intro j _
  unfold updF
  split <;> rfl
theorem fV_len (n : Nat) (d : Nat → Option Nat) : (fV n d).length = n := by unfold fV; rw [List.length_map, List.length_range]
theorem fV_get {n : Nat} {d : Nat → Option Nat} {v : Nat} (h : v < n) : (fV n d)[v]? = some (optV (d v)) := by unfold fV; rw [tab_get h]
/-- the list of the fields' distances -/
def tabN (n : Nat) (f : Nat → Nat) : List Nat := (List.range n).map f
theorem tabN_get {n : Nat} {f : Nat → Nat} {i : Nat} (h : i < n) : (tabN n f)[i]? = some (f i) := tab_get h
theorem tabN_len (n : Nat) (f : Nat → Nat) : (tabN n f).length = n := by unfold tabN; rw [List.length_map, List.length_range]
theorem fV_all {n : Nat} {d : Nat → Option Nat} {f : Nat → Nat} (h : ∀ v, v < n → d v = some (f v)) : fV n d = nV (tabN n f) := by
  unfold fV nV tabN
  rw [List.map_map]
  apply List.map_congr_left
  intro j hj
  rw [h j (List.mem_range.mp hj)]; rfl
theorem rep_none (n : Nat) : (List.replicate n [V.non]).flatten = fV n fun _ => none := by
  unfold fV
  induction n with
  | zero => rfl
  | succ m ih => rw [List.replicate_succ', List.flatten_append, ih, List.range_succ, List.map_append]; rfl
section
variable {P : Program} {w : World} {K : PySem.W.Frag} {mg : Str → Option Value} {base : Heap}
def sp_reach : Sp := fun vs H Q _ => ∃ (S : Hp) (v : V) (n first : Nat) (es : List (Nat × Nat)), vs = [v, .int (first : Int)] ∧ Ex S H ∧ WebV S v n es ∧ EdgesOk n es ∧ Conn es n ∧ first < n ∧
  RetG S H (fun r S' => ∃ f, LstA S' r (nV (tabN n f)) ∧ DistW es n first f) Q
theorem ok_reach_of (T : Tx K mg) : OkD P w K mg base 2 "reach_of" ["web", "first"] sp_reach := by
  refine mk_reach_of T (fun vs H Q E h => ?_) (fun f cdv A outer s H vs Q E hr h => ?_)
  · obtain ⟨S, v, n, fi, es, rfl, _⟩ := h
    rfl
  · obtain ⟨S, v, n, fi, es, rfl, eH, hW, ok, hC, hfi, q⟩ := h
    refine ⟨_, (pss_cons (ps_par3 (i := 2) (j := 3) (l := 4) rfl sc_reach_of.nd rfl rfl rfl (by decide) (by decide) (by decide) rfl rfl rfl (pa_cons (pcall (ok_nears_of T) (hr.mono (by decide)) (pa_cons (pv 0) pa_nil)) (pa_cons (pe_op op_rep (pe_lst (pa_cons pe_non pa_nil)) (pe_ix (ixTK K) (pv 0) pe_int (fun _ _ => rfl))) (pa_cons (pe_lst (pa_cons (pv 1) pa_nil)) pa_nil))) (by rfl))
    (pss_cons (ps_asg pe_int (pg_sub (pv 3) (pv 1) set_list))
    (pss_cons (ps_set (i := 5) sc_reach_of.nd rfl (.inl rfl) pe_int)
    (pss_cons (ps_while PassesOwn.never (pt_cmpR op_lt (pv 5) (pe_callB (lenK K) (by rfl) T.b_len (by decide +kernel) (pa_cons (pv 4) pa_nil)) (nomark _))
      (pss_cons (ps_for PassesOwn.never rfl (piLK K (pe_ix (ixLK K) (pv 2) (pe_ix (ixLK K) (pv 4) (pv 5) (fun _ _ => rfl)) (fun _ _ => rfl))) (pg_name (i := 6) sc_reach_of.nd rfl (Or.inl rfl))
      (pss_one (ps_if (pt_cmpR op_isN (pe_ix (ixLK K) (pv 3) (pv 6) (fun _ _ => rfl)) pe_non (nomark _))
      (pss_cons (ps_asg (pe_op op_add (pe_ix (ixLK K) (pv 3) (pe_ix (ixLK K) (pv 4) (pv 5) (fun _ _ => rfl)) (fun _ _ => rfl)) pe_int) (pg_sub (pv 3) (pv 6) set_list))
    (pss_one (ps_expr (pe_bm PySem.F.plainAttrs_list PySem.F.slot_list_append PySem.F.type_list_append mt_append (pv 4) (pa_cons (pv 6) pa_nil)))))
      pss_nil)))
    (pss_one (ps_aug (i := 5) sc_reach_of.nd rfl (.inl rfl) pe_int ip_add))))
    (pss_one (ps_ret (pv 3))))))), ?_⟩
    obtain ⟨b, hT, hB⟩ := id hW
    refine eg_call (ea_cons (ev_var rfl) ea_nil) (sp_nears_ok hW ok) H eH _ fun nr S1 H1 g1 hN => ?_
    refine ⟨by show 1 ≤ sizeLine; decide, fun tmp htmp => ?_⟩
    have g2 : Gr [] S H S1 (upd H1 tmp (.lst [.non])) := g1.trans (Gr.lay g1.i htmp)
    refine ev_ixT (j := 0) (ev_var rfl) ev_c (hT.mono g1.s) rfl _ g2.i _ fun H2 e2 => ?_
    refine ⟨tmp, (n : Int), [.non], rfl, rfl, e2 _ _ upd_same, by omega, by have := ok.hi; omega, ?_, fun fnd hfnd => ?_⟩
    · have e : ((n : Int)).toNat = n := by omega
      rw [e]
      show 1 * n ≤ sizeLine
      exact sz_of (by have := ok.hi; omega)
    have g3 : Gr [] S H S1 H2 := g2.trans (Gr.of_ex g2.i e2)
    have en : ((n : Int)).toNat = n := by omega
    rw [en, rep_none]
    have g4 : Gr [] S H S1 (upd H2 fnd (.lst (fV n fun _ => none))) := g3.trans (Gr.lay g3.i hfnd)
    refine ⟨.int (fi : Int), rfl, by show 1 ≤ sizeLine; decide, fun ln hln => ?_⟩
    have hne : fnd ≠ ln := fun z => by rw [z, upd_same] at hln; cases hln
    have g5 : Gr [] S H S1 (upd (upd H2 fnd (.lst (fV n fun _ => none))) ln (.lst [.int (fi : Int)])) := g4.trans (Gr.lay g4.i hln)
    have hHf : H fnd = none := g3.fr eH hfnd
    have hHl : H ln = none := g4.fr eH hln
    have hSf : S1 fnd = none := g3.frS hfnd
    have hSl : S1 ln = none := g4.frS hln
    refine ⟨nr, .ref fnd, .ref ln, rfl, ?_⟩
    refine ⟨.ref fnd, rfl, .int (fi : Int), rfl, fnd, fV n (fun _ => none), _, fi, rfl, rfl, (upd_ne hne).trans upd_same, ixN_nat (by rw [fV_len]; exact hfi), ?_⟩
    have e0 : (fV n fun _ => none).set fi (.int 0) = fV n (updF (fun _ => none) fi (some 0)) := fV_set n _ fi 0
    rw [e0]
    have g6 := g5.put (p := fnd) (u := .lst (fV n (updF (fun _ => none) fi (some 0)))) (.inl hHf) hSf
    have h6f : (upd (upd (upd H2 fnd (.lst (fV n fun _ => none))) ln (.lst [.int (fi : Int)])) fnd (.lst (fV n (updF (fun _ => none) fi (some 0))))) fnd = some (.lst (fV n (updF (fun _ => none) fi (some 0)))) := upd_same
    have h6l : (upd (upd (upd H2 fnd (.lst (fV n fun _ => none))) ln (.lst [.int (fi : Int)])) fnd (.lst (fV n (updF (fun _ => none) fi (some 0))))) ln = some (.lst (nV [fi])) := by rw [upd_ne (Ne.symm hne), upd_same]; rfl
    generalize upd (upd (upd H2 fnd (.lst (fV n fun _ => none))) ln (.lst [.int (fi : Int)])) fnd (.lst (fV n (updF (fun _ => none) fi (some 0)))) = H6 at g6 h6f h6l ⊢
    obtain ⟨rows, xss, ⟨an, en1, han⟩, hrows⟩ : ∃ rows xss, LstA S1 nr rows ∧ (Paired (fun x xs => LstA S1 x (nV xs)) rows xss ∧ xss.length = n ∧ ∀ (k : Nat) (xs : List Nat), xss[k]? = some xs → xs.Perm (nb es k)) := by
      obtain ⟨xss, ⟨rows, h1, h2⟩, h3, h4⟩ := hN
      exact ⟨rows, xss, h1, h2, h3, h4⟩
    obtain ⟨hrp, hxl, hxp⟩ := hrows
    subst en1
    refine q_asg (v := .int 0) ev_c (fun H7 e7 => ?_)
    show tSeq (tWhile _ _) _ _ [some v, some (.int (fi : Int)), some (.ref an), some (.ref fnd), some (.ref ln), some (.int 0), none] H7
    refine q_while (fun m σ' H' => ∃ (d : Nat → Option Nat) (line : List Nat) (at_ : Nat) (y : Option V), σ' = [some v, some (.int (fi : Int)), some (.ref an), some (.ref fnd), some (.ref ln), some (.int (at_ : Int)), y] ∧ Gr [] S H S1 H' ∧ H' fnd = some (.lst (fV n d)) ∧ H' ln = some (.lst (nV line)) ∧ BfsInv es n fi d line at_ ∧ m = n - at_) n
      ⟨_, [fi], 0, none, rfl, g6.trans (Gr.of_ex g6.i e7), e7 _ _ h6f, e7 _ _ h6l, BfsInv.start hfi, rfl⟩ ?_
    rintro m σ' H' ⟨d, line, at_, y, rfl, gg, hf, hl, I, rfl⟩
    refine ⟨decide ((at_ : Int) < ((nV line).length : Int)), et_test (ev_op (ev_var rfl) (ev_lenL (ev_var rfl) ⟨ln, rfl, hl⟩) rv_I0), fun hb H8 e8 => ?_, fun hb H8 e8 => ?_⟩
    · -- a turn of the while
      have hat : at_ < line.length := by
        have := of_decide_eq_true hb
        rw [nV_len] at this
        omega
      have hn := I.len
      obtain ⟨c, hc⟩ : ∃ c, line[at_]? = some c := ⟨line[at_], List.getElem?_eq_getElem hat⟩
      have hcn := I.lt c (List.mem_of_getElem? hc)
      obtain ⟨k, hk⟩ : ∃ k, d c = some k := Option.ne_none_iff_exists'.mp ((I.iff c).mpr (List.mem_of_getElem? hc))
      obtain ⟨xs, hxs⟩ : ∃ xs, xss[c]? = some xs := ⟨xss[c]'(by omega), List.getElem?_eq_getElem (by omega)⟩
      obtain ⟨row, hrow, ar, ear, har⟩ := pgetR hrp hxs
      subst ear
      have hperm := hxp c xs hxs
      have gg8 : Gr [] S H S1 H8 := gg.trans (Gr.of_ex gg.i e8)
      have hf8 := e8 _ _ hf
      have hl8 := e8 _ _ hl
      refine ⟨_, fun σ2 H2 hN => hN, ?_⟩
      refine for_turns (n := (nV xs).length) (u := fun i σ' => σ'.set 6 (some ((nV xs).getD i .non))) (S := S1)
        (turns_listAt (a := ar) (xs := nV xs) (ev_ixL (x := .ref an) (j := c) (xs := rows) (ev_var rfl) (ev_ixL (x := .ref ln) (j := at_) (xs := nV line) (ev_var rfl) (ev_var rfl) ⟨ln, rfl, hl8⟩ (nV_get hc)) ⟨an, rfl, gg8.i _ _ han⟩ hrow) gg8.i (sq_of har) (fun i x H' σ' Q' hx _ kk => by
            have ex : (nV xs).getD i .non = x := by rw [List.getD_eq_getElem?_getD, hx]; rfl
            have := kk H' (Ex.refl _)
            rw [ex] at this
            exact this))
        (fun S3 i σ' H' => ∃ (d' : Nat → Option Nat) (line' : List Nat) (y : Option V), σ' = [some v, some (.int (fi : Int)), some (.ref an), some (.ref fnd), some (.ref ln), some (.int (at_ : Int)), y] ∧ Gr [] S H S3 H' ∧ (S3 fnd = none ∧ S3 ln = none ∧ Gr [] S H S1 H') ∧ H' fnd = some (.lst (fV n d')) ∧ H' ln = some (.lst (nV line')) ∧ BfsInv es n fi d' line' at_ ∧
          line'[at_]? = some c ∧ d' c = some k ∧ ∀ u ∈ xs.take i, d' u ≠ none)
        (fun S3 H3 g3 => ⟨d, line, y, rfl, gg8.trans g3, ⟨g3.f _ hSf (by rw [hf8]; simp), g3.f _ hSl (by rw [hl8]; simp), gg8.trans (Gr.of_ex gg8.i g3.ex)⟩, g3.ex _ _ hf8, g3.ex _ _ hl8, I, hc, hk, fun u hu => by simp at hu⟩)
        (fun S3 i σ' H' ⟨_, _, _, _, g, _⟩ => g.i) ?_ ?_
      · rintro S3 i σ' H' hi ⟨d', line', y, rfl, gg3, ⟨hf3, hl3, ggS⟩, hfd, hld, I', hc', hk', hx'⟩ H9 e9
        rw [nV_len] at hi
        have hxi : xs[i]? = some xs[i] := List.getElem?_eq_getElem hi
        have exi : (nV xs).getD i .non = .int (xs[i] : Int) := by rw [List.getD_eq_getElem?_getD, nV_get hxi]; rfl
        rw [exi]
        generalize hz : xs[i] = z at hxi
        have hadj : Adj es c z := mem_nb.mp (hperm.mem_iff.mp (List.mem_of_getElem? hxi))
        have hzn : z < n := by
          rcases hadj with q | q
          · exact (ok.ok _ q).2
          · have := ok.ok _ q; omega
        have hf9 := e9 _ _ hfd
        have hl9 := e9 _ _ hld
        have g39 := gg3.trans (Gr.of_ex gg3.i e9)
        have gS9 := ggS.trans (Gr.of_ex ggS.i e9)
        have tk : ∀ u ∈ xs.take (i + 1), u ∈ xs.take i ∨ u = z := fun u hu => by
          rw [List.take_add_one, hxi] at hu
          simpa using hu
        show tIfS _ _ _ _ [some v, some (.int (fi : Int)), some (.ref an), some (.ref fnd), some (.ref ln), some (.int (at_ : Int)), some (.int (z : Int))] H9
        refine s_when (b := decide (optV (d' z) = .non)) (et_test (ev_op (x := optV (d' z)) (ev_ixL (x := .ref fnd) (j := z) (ev_var rfl) (ev_var rfl) ⟨fnd, rfl, hf9⟩ (fV_get hzn)) ev_c (fun H1 _ Q q => ⟨rfl, q H1 (Ex.refl H1)⟩))) (fun hb H10 e10 => ?_) (fun hb H10 e10 => ?_)
        · have hdz : d' z = none := by
            have := of_decide_eq_true hb
            cases q : d' z with
            | none => rfl
            | some x => rw [q] at this; cases this
          have hf10 := e10 _ _ hf9
          have hl10 := e10 _ _ hl9
          have g310 := g39.trans (Gr.of_ex g39.i e10)
          have gS10 := gS9.trans (Gr.of_ex gS9.i e10)
          refine q_setL (l := fnd) (xs := fV n d') (j := z) (v := .int ((k + 1 : Nat) : Int)) hf10 (ev_is (ev_op (x := .int (k : Int)) (y := .int 1) (ev_ixL (x := .ref fnd) (j := c) (ev_var rfl) (ev_ixL (x := .ref ln) (j := at_) (ev_var rfl) (ev_var rfl) ⟨ln, rfl, hl10⟩ (nV_get hc')) ⟨fnd, rfl, hf10⟩ (by rw [fV_get hcn, hk']; rfl)) ev_c rv_I0) (by rw [Int.natCast_add]; rfl)) (ev_var rfl) (ev_var rfl) (by rw [fV_len]; exact hzn) (fun H11 e11 => ?_)
          rw [fV_set]
          have g311 := (g310.trans (Gr.of_ex g310.i e11)).put (p := fnd) (u := .lst (fV n (updF d' z (some (k + 1))))) (.inl hHf) hf3
          have gS11 := (gS10.trans (Gr.of_ex gS10.i e11)).put (p := fnd) (u := .lst (fV n (updF d' z (some (k + 1))))) (.inl hHf) hSf
          refine s_app (l := ln) (xs := nV line') (v := .int (z : Int)) ?_ (ev_var rfl) (ev_var rfl) ?_ (fun H12 e12 => ?_)
          · rw [upd_ne (Ne.symm hne)]; exact e11 _ _ hl10
          · rw [nV_len]; have := I'.len; have := ok.hi; omega
          · have I2 := I'.add hc' hk' hadj hzn hdz
            refine ⟨updF d' z (some (k + 1)), line' ++ [z], _, rfl, (g311.trans (Gr.of_ex g311.i e12)).put (.inl hHl) hl3, ⟨hf3, hl3, (gS11.trans (Gr.of_ex gS11.i e12)).put (.inl hHl) hSl⟩, ?_, by rw [upd_same, nV_snoc], I2, ?_, ?_, fun u hu => ?_⟩
            · rw [upd_ne hne]; exact e12 _ _ upd_same
            · rw [List.getElem?_append_left (by obtain ⟨h1, _⟩ := List.getElem?_eq_some_iff.mp hc'; exact h1)]; exact hc'
            · rw [updF_ne (fun e => by rw [e, hdz] at hk'; cases hk')]; exact hk'
            · by_cases e : u = z
              · subst e; rw [updF_same]; simp
              · rw [updF_ne e]
                exact (tk u hu).elim (hx' u) (fun q => absurd q e)
        · refine ⟨d', line', _, rfl, g39.trans (Gr.of_ex g39.i e10), ⟨hf3, hl3, gS9.trans (Gr.of_ex gS9.i e10)⟩, e10 _ _ hf9, e10 _ _ hl9, I', hc', hk', fun u hu => ?_⟩
          rcases tk u hu with q | q
          · exact hx' u q
          · subst q
            intro z2
            have := of_decide_eq_false hb
            rw [z2] at this
            exact this rfl
      · rintro S3 σ' H' ⟨d', line', y, rfl, gg3, ⟨hf3, hl3, ggS⟩, hfd, hld, I', hc', hk', hx'⟩
        show tAug 5 _ _ _ [some v, some (.int (fi : Int)), some (.ref an), some (.ref fnd), some (.ref ln), some (.int (at_ : Int)), y] H'
        refine s_aug (a := (at_ : Int)) (b := 1) rfl ev_c (fun H9 e9 => ?_)
        rw [nV_len, List.take_length] at hx'
        refine ⟨n - (at_ + 1), by have := I.len; omega, d', line', at_ + 1, y, by rw [Int.natCast_add]; rfl, ggS.trans (Gr.of_ex ggS.i e9), e9 _ _ hfd, e9 _ _ hld, I'.step hc' (fun u ha => hx' u (hperm.mem_iff.mpr (mem_nb.mpr ha))), rfl⟩
    · -- return found
      have hat : line.length ≤ at_ := by
        have := of_decide_eq_false hb
        rw [nV_len] at this
        omega
      obtain ⟨f', hf', hD⟩ := I.fin hC hat
      have gg8 := gg.trans (Gr.of_ex gg.i e8)
      refine s_ret (v := .ref fnd) (ev_var rfl) (fun H9 e9 => ?_)
      have gg9 := gg8.trans (Gr.of_ex gg8.i e9)
      have h9 : H9 fnd = some (.lst (nV (tabN n f'))) := by rw [← fV_all hf']; exact e9 _ _ (e8 _ _ hf)
      exact q _ _ H9 (gg9.fix hHf h9) ⟨f', ⟨fnd, rfl, upd_same⟩, hD⟩
theorem sp_reach_ok {S : Hp} {v : V} {n first : Nat} {es : List (Nat × Nat)} (hW : WebV S v n es) (ok : EdgesOk n es) (hC : Conn es n) (hf : first < n) : SpG sp_reach ([v, .int (first : Int)] ++ []) S fun r S' => ∃ f, LstA S' r (nV (tabN n f)) ∧ DistW es n first f := fun H e Q E q => ⟨S, v, n, first, es, rfl, e, hW, ok, hC, hf, q⟩
end
end Tr
end
section
set_option linter.all false
/-! parities. Plain Lean. -/
namespace Tr
/-- two colors: joined fields have unlike ones -/
def Col (es : List (Nat × Nat)) (c : Nat → Nat) : Prop := ∀ u v, Adj es u v → (c u + c v) % 2 = 1
theorem DistW.par {es : List (Nat × Nat)} {n s : Nat} {d c : Nat → Nat} (D : DistW es n s d) (C : Col es c) : ∀ v, v < n → (d v + c v + c s) % 2 = 0 := by
  have key : ∀ m v, v < n → d v = m → (d v + c v + c s) % 2 = 0 := by
    intro m
    induction m using Nat.strongRecOn with
    | _ m ih =>
      intro v hv hm
      by_cases e : v = s
      · subst e
        rw [D.zero]; omega
      · obtain ⟨u, hu, ha, h1⟩ := D.up v hv e
        have h2 := ih (d u) (by omega) u hu rfl
        have h3 := C u v ha
        omega
  exact fun v hv => key _ v hv rfl
end Tr
end
section
set_option Elab.async false
set_option linter.all false
set_option maxRecDepth 100000
set_option maxHeartbeats 4000000
namespace Tr
open PySem PySem.Spec PyProof.Rows L2 Evl
/-- a web, colored -/
structure WebOk (n : Nat) (es : List (Nat × Nat)) (c : Nat → Nat) : Prop where
  form : FormOk n es
  conn : Conn es n
  col : Col es c
theorem tab_turn {K : PySem.W.Frag} {xs : List V} {j : Nat} {S : Hp} : ∀ i x (H : Hp) (σ' : L2.St) (Q : L2.St → Hp → Prop), xs[i]? = some x → Ex S H → (∀ H3, Ex H H3 → Q (σ'.set j (some (xs.getD i .non))) H3) → gName j x σ' H Q := fun i x H σ' Q hx _ k => by
  have ex : xs.getD i .non = x := by rw [List.getD_eq_getElem?_getD, hx]; rfl
  have := k H (Ex.refl _)
  rw [ex] at this
  exact this
theorem getD_of {xs : List V} {i : Nat} {x : V} (h : xs[i]? = some x) : xs.getD i .non = x := by rw [List.getD_eq_getElem?_getD, h]; rfl
section
variable {P : Program} {w : World} {K : PySem.W.Frag} {mg : Str → Option Value} {base : Heap}
def sp_web (r : V) : Sp := fun vs H Q _ => ∃ (v : V) (n : Nat) (es : List (Nat × Nat)) (c : Nat → Nat), vs = [v] ∧ WebV H v n es ∧ WebOk n es c ∧ RetV r H Q
theorem sp_web_ok {r : V} {S : Hp} {v : V} {n : Nat} {es : List (Nat × Nat)} {c : Nat → Nat} (hW : WebV S v n es) (ok : WebOk n es c) : SpV (sp_web r) ([v] ++ []) S r := fun H e Q q _ => ⟨v, n, es, c, rfl, hW.mono e, ok, q⟩
theorem ok_odd_hedge (T : Tx K mg) : OkD P w K mg base 3 "odd_hedge" ["web"] (sp_web .non) := by
  refine mk_odd_hedge T (fun vs H Q E h => ?_) (fun f cdv A outer s H vs Q E hr h => ?_)
  · obtain ⟨v, n, es, c, rfl, _⟩ := h
    rfl
  · obtain ⟨v, n, es, c, rfl, hW, ok, q⟩ := h
    refine ⟨_, (pss_cons (ps_set (i := 1) sc_odd_hedge.nd rfl (.inr rfl) (pcall (ok_reach_of T) (hr.mono (by decide)) (pa_cons (pv 0) (pa_cons pe_int pa_nil))))
    (pss_cons (ps_setLc (i := 2) (own := [("hedge", 3)]) (g := (gName 3)) rfl sc_odd_hedge.nd rfl rfl (sw_true rfl rfl rfl (by decide +kernel)) (piTK K (pe_ix (ixTK K) (pv 0) pe_int (fun _ _ => rfl))) (blkOk_by (own := [("hedge", 3)]) (N := N_odd_hedge) (sc := defScope s_odd_hedge) (by decide +kernel)) (fun _ _ _ _ _ => (pg_name (i := 3) sc_odd_hedge.nd rfl (Or.inl rfl))) (fun _ _ _ _ _ => (pts_one (pt_cmpR op_eq (pe_op op_modN (pe_op op_sub (pe_ix (ixLK K) (pv 1) (pe_ix (ixTK K) (pv 3) pe_int (fun _ _ => rfl)) (fun _ _ => rfl)) (pe_ix (ixLK K) (pv 1) (pe_ix (ixTK K) (pv 3) pe_int (fun _ _ => rfl)) (fun _ _ => rfl))) pe_int) pe_int (nomark _)))) (fun _ _ _ _ _ => (pv 3)))
    (pss_one (ps_ret (pe_ifExp (pt_cmpR (neDK K hr.units) (pv 2) (pe_lst pa_nil) (nomark _)) (pe_ix (ixLK K) (pv 2) pe_int (fun _ _ => rfl)) pe_non))))), ?_⟩
    obtain ⟨b, hT, ps, hB, hps⟩ := id hW
    obtain ⟨ab, eb, hab⟩ := id hB
    refine q_asgG (eg_call (ea_cons (ev_var rfl) (ea_cons ev_c ea_nil)) (sp_reach_ok (first := 0) hW ok.form.edges ok.conn ok.form.lo)) (Ex.refl H) (fun told S1 H1 g1 ⟨d, hd, hD⟩ => ?_)
    have hpar := hD.par ok.col
    refine q_asgG (P := fun r S' => LstA S' r []) ?_ g1.i (fun r S2 H2 g2 h2 => ?_)
    · refine EvG.imp (lc_filter (n := ps.length) (u := fun i σ' => σ'.set 3 (some (ps.getD i .non))) (fun _ => false) (fun i => .non) (turns_tup (xs := ps) (a := ab) (by rw [← eb]; exact ev_ixT (j := 1) (ev_var rfl) ev_c (hT.mono g1.s) rfl) (st_of (g1.s _ _ hab)) (tab_turn (K := K)))
        (fun i _ => set1_wipe _ _ _) (by rw [hps.length]; have := ok.form.few; omega) (fun i S3 hi e3 => ?_) (fun i S3 _ h => nomatch h)) fun r S' _ h => ?_
      · obtain ⟨e, he, hpe⟩ := pget hps (List.getElem?_eq_getElem hi)
        have hok := ok.form.ok e (List.mem_of_getElem? he)
        have hc := ok.col e.1 e.2 (.inl (List.mem_of_getElem? he))
        have p1 := hpar e.1 (by omega)
        have p2 := hpar e.2 (by omega)
        have hpe3 : PairV S3 ps[i] e := (hpe.mono g1.s).mono e3
        have vx : Ev (tVar 3) ((wipe ((start N_odd_hedge [v]).set 1 (some told)) [3]).set 3 (some (ps.getD i .non))) S3 ps[i] := ev_var (by rw [getD_of (List.getElem?_eq_getElem hi)]; rfl)
        refine EvT.mono (Ex.refl S3) (et_is (et_test (ev_op (x := .int (Int.fmod ((d e.1 : Int) - (d e.2 : Int)) 2)) (y := .int 0) (ev_op (ev_op (ev_ixL (j := e.1) (ev_var rfl) (ev_ixT (j := 0) vx ev_c hpe3 rfl) (hd.mono e3) (nV_get (tabN_get (by omega)))) (ev_ixL (j := e.2) (ev_var rfl) (ev_ixT (j := 1) vx ev_c hpe3 rfl) (hd.mono e3) (nV_get (tabN_get (by omega)))) rv_I0) ev_c (rv_I (by decide))) ev_c (rv_eq rfl))) ?_)
        refine decide_eq_false fun z => ?_
        have z2 : Int.fmod ((d e.1 : Int) - (d e.2 : Int)) 2 = 0 := by injection z
        rw [Int.fmod_eq_emod_of_nonneg _ (by decide)] at z2
        omega
      · obtain ⟨a, ea, ha⟩ := h
        refine ⟨a, ea, ?_⟩
        rw [ha]; simp
    · refine s_ret (v := .non) (ev_if (b := !(([] : List Int).isEmpty)) (et_test (ev_neNil (ns := []) (ev_var rfl) (h2.mono g2.i))) (fun hb => nomatch hb) (fun _ => ev_c)) (fun H3 e3 => q H3 ((g1.ex.trans g2.ex).trans e3))
theorem flat_nV (xs : List Nat) : (nV xs).all flatV = true := by
  rw [List.all_eq_true]
  intro x hx
  unfold nV at hx
  obtain ⟨k, _, rfl⟩ := List.mem_map.mp hx
  rfl
theorem inV_nV (xs : List Nat) : inV .non (nV xs) = false := by
  unfold inV
  rw [List.any_eq_false]
  intro x hx
  unfold nV at hx
  obtain ⟨k, _, rfl⟩ := List.mem_map.mp hx
  simp [eqV]
theorem ok_bar_of (T : Tx K mg) : OkD P w K mg base 4 "bar_of" ["web"] (sp_web .non) := by
  refine mk_bar_of T (fun vs H Q E h => ?_) (fun f cdv A outer s H vs Q E hr h => ?_)
  · obtain ⟨v, n, es, c, rfl, _⟩ := h
    rfl
  · obtain ⟨v, n, es, c, rfl, hW, ok, q⟩ := h
    refine ⟨_, (pss_cons (ps_set (i := 1) sc_bar_of.nd rfl (.inr rfl) (pcall (ok_reach_of T) (hr.mono (by decide)) (pa_cons (pv 0) (pa_cons pe_int pa_nil))))
    (pss_cons (ps_if (pt_cmpR (inK K) pe_non (pv 1) (by rfl))
      (pss_one ps_never)
      pss_nil)
    (pss_cons (ps_set (i := 2) sc_bar_of.nd rfl (.inl rfl) (pcall (ok_odd_hedge T) (hr.mono (by decide)) (pa_cons (pv 0) pa_nil)))
    (pss_one (ps_ret (pe_ifExp (pt_cmpR op_notN (pv 2) pe_non (nomark _)) (pe_tup (pa_cons pe_str (pa_cons (pv 2) pa_nil))) pe_non)))))), ?_⟩
    refine q_asgG (eg_call (ea_cons (ev_var rfl) (ea_cons ev_c ea_nil)) (sp_reach_ok (first := 0) hW ok.form.edges ok.conn ok.form.lo)) (Ex.refl H) (fun told S1 H1 g1 ⟨d, ⟨a, ea, hd⟩, hD⟩ => ?_)
    subst ea
    refine q_when (b := inV .non (nV (tabN n d))) (et_test (ev_op (ev_c) (ev_var rfl) (rv_isL (sq_of (g1.i _ _ hd)) rfl (flat_nV _)))) (fun hb => ?_) (fun _ H2 e2 => ?_)
    · rw [inV_nV] at hb; cases hb
    refine q_asg (v := .non) (ev_call (ea_cons (ev_var rfl) ea_nil) (sp_web_ok ((hW.mono g1.ex).mono e2) ok)) (fun H3 e3 => ?_)
    refine s_ret (v := .non) (ev_if (b := !decide (V.non = V.non)) (et_test (ev_op (ev_var rfl) ev_c (fun H1 _ Q q => ⟨rfl, q H1 (Ex.refl H1)⟩))) (fun hb => absurd hb (by decide)) (fun _ => ev_c)) (fun H4 e4 => q H4 (((g1.ex.trans e2).trans e3).trans e4))
theorem ok_need_web (T : Tx K mg) : OkD P w K mg base 5 "need_web" ["value"] (sp_web .non) := by
  refine mk_need_web T (fun vs H Q E h => ?_) (fun f cdv A outer s H vs Q E hr h => ?_)
  · obtain ⟨v, n, es, c, rfl, _⟩ := h
    rfl
  · obtain ⟨v, n, es, c, rfl, hW, ok, q⟩ := h
    refine ⟨_, (pss_one (ps_if (PW.pt (pw_or (pt_not (pt_val (pcall (ok_has_form T) (hr.mono (by decide)) (pa_cons (pv 0) pa_nil)))) (pw_or1 (pt_cmpR op_notN (pcall (ok_bar_of T) (hr.mono (by decide)) (pa_cons (pv 0) pa_nil)) pe_non (nomark _)))))
      (pss_one ps_never)
      pss_nil)), ?_⟩
    exact s_when (b := !true || !decide (V.non = V.non)) (et_or (et_not (et_B (ev_call (ea_cons (ev_var rfl) ea_nil) fun H1 e1 Q1 q1 _ => ⟨v, n, es, rfl, hW.mono e1, ok.form, q1⟩))) (fun _ => et_test (ev_op (ev_call (ea_cons (ev_var rfl) ea_nil) (sp_web_ok hW ok)) ev_c (fun H1 _ Q q => ⟨rfl, q H1 (Ex.refl H1)⟩)))) (fun hb => absurd hb (by decide)) (fun _ H1 e1 => q H1 e1)
end
end Tr
end
section
set_option linter.all false
/-! medians: the sum of distances. Plain Lean. -/
namespace Tr
def absI (i : Int) : Int := if i < 0 then -i else i
def sumS (L : List Int) (t : Int) : Int := (L.map fun x => absI (x - t)).sum
theorem sumS_app (a b : List Int) (t : Int) : sumS (a ++ b) t = sumS a t + sumS b t := by unfold sumS; rw [List.map_append, List.sum_append]
theorem sumS_perm {a b : List Int} (h : a.Perm b) (t : Int) : sumS a t = sumS b t := by
  unfold sumS
  have h := h.map fun x => absI (x - t)
  generalize a.map (fun x => absI (x - t)) = a' at h
  generalize b.map (fun x => absI (x - t)) = b' at h
  induction h with
  | nil => rfl
  | cons x _ ih => rw [List.sum_cons, List.sum_cons, ih]
  | swap x y l => rw [List.sum_cons, List.sum_cons, List.sum_cons, List.sum_cons]; omega
  | trans _ _ h1 h2 => rw [h1, h2]
theorem sumS_ge {t m δ : Int} : ∀ l : List Int, (∀ x ∈ l, absI (x - m) + δ ≤ absI (x - t)) → sumS l m + δ * (l.length : Int) ≤ sumS l t
  | [], _ => by simp [sumS]
  | x :: r, h => by
    have ih := sumS_ge r fun y hy => h y (List.mem_cons_of_mem _ hy)
    have h1 := h x List.mem_cons_self
    unfold sumS at ih ⊢
    rw [List.map_cons, List.map_cons, List.sum_cons, List.sum_cons, List.length_cons, Int.natCast_add, Int.mul_add]
    omega
theorem med_lt {L : List Int} (hs : L.Pairwise (· ≤ ·)) {k : Nat} {m : Int} (hk : L[k]? = some m) {t : Int} (ht : t ≤ m) : sumS L m + (m - t) * ((L.length : Int) - 2 * (k : Int)) ≤ sumS L t := by
  obtain ⟨hk1, hk2⟩ := List.getElem?_eq_some_iff.mp hk
  have e : L = L.take k ++ L.drop k := (List.take_append_drop k L).symm
  have a1 : sumS (L.take k) m + (-(m - t)) * ((L.take k).length : Int) ≤ sumS (L.take k) t := sumS_ge _ fun x _ => by unfold absI; split <;> split <;> omega
  have a2 : sumS (L.drop k) m + (m - t) * ((L.drop k).length : Int) ≤ sumS (L.drop k) t := sumS_ge _ fun x hx => by
    obtain ⟨j, hj⟩ := List.mem_iff_getElem?.mp hx
    rw [List.getElem?_drop] at hj
    obtain ⟨j1, j2⟩ := List.getElem?_eq_some_iff.mp hj
    have : m ≤ x := by
      by_cases z : j = 0
      · subst z
        have : L[k]? = some x := hj
        rw [hk] at this
        have := Option.some.inj this
        omega
      · rw [← hk2, ← j2]
        exact List.pairwise_iff_getElem.mp hs k (k + j) hk1 j1 (by omega)
    unfold absI; split <;> split <;> omega
  have l1 : (L.take k).length = k := by rw [List.length_take]; omega
  have l2 : (L.drop k).length = L.length - k := List.length_drop
  rw [l1] at a1
  rw [l2] at a2
  have e1 : sumS L m = sumS (L.take k) m + sumS (L.drop k) m := by rw [← sumS_app, ← e]
  have e2 : sumS L t = sumS (L.take k) t + sumS (L.drop k) t := by rw [← sumS_app, ← e]
  rw [e1, e2]
  have c : ((L.length - k : Nat) : Int) = (L.length : Int) - (k : Int) := by omega
  rw [c] at a2
  have e3 : (m - t) * ((L.length : Int) - 2 * (k : Int)) = (m - t) * ((L.length : Int) - (k : Int)) + (-(m - t)) * (k : Int) := by
    rw [Int.neg_mul, ← Int.sub_eq_add_neg, ← Int.mul_sub]
    congr 1; omega
  rw [e3]
  omega
theorem med_gt {L : List Int} (hs : L.Pairwise (· ≤ ·)) {k : Nat} {m : Int} (hk : L[k]? = some m) {t : Int} (ht : m ≤ t) : sumS L m + (t - m) * (2 * (k : Int) + 2 - (L.length : Int)) ≤ sumS L t := by
  obtain ⟨hk1, hk2⟩ := List.getElem?_eq_some_iff.mp hk
  have e : L = L.take (k + 1) ++ L.drop (k + 1) := (List.take_append_drop (k + 1) L).symm
  have a1 : sumS (L.take (k + 1)) m + (t - m) * ((L.take (k + 1)).length : Int) ≤ sumS (L.take (k + 1)) t := sumS_ge _ fun x hx => by
    obtain ⟨j, hj⟩ := List.mem_iff_getElem?.mp hx
    rw [List.getElem?_take] at hj
    by_cases hjk : j < k + 1
    · rw [if_pos hjk] at hj
      obtain ⟨j1, j2⟩ := List.getElem?_eq_some_iff.mp hj
      have : x ≤ m := by
        by_cases z : j = k
        · subst z
          rw [hk] at hj
          have := Option.some.inj hj
          omega
        · rw [← hk2, ← j2]
          exact List.pairwise_iff_getElem.mp hs j k j1 hk1 (by omega)
      unfold absI; split <;> split <;> omega
    · rw [if_neg hjk] at hj; cases hj
  have a2 : sumS (L.drop (k + 1)) m + (-(t - m)) * ((L.drop (k + 1)).length : Int) ≤ sumS (L.drop (k + 1)) t := sumS_ge _ fun x _ => by unfold absI; split <;> split <;> omega
  have l1 : (L.take (k + 1)).length = k + 1 := by rw [List.length_take]; omega
  have l2 : (L.drop (k + 1)).length = L.length - (k + 1) := List.length_drop
  rw [l1] at a1
  rw [l2] at a2
  have e1 : sumS L m = sumS (L.take (k + 1)) m + sumS (L.drop (k + 1)) m := by rw [← sumS_app, ← e]
  have e2 : sumS L t = sumS (L.take (k + 1)) t + sumS (L.drop (k + 1)) t := by rw [← sumS_app, ← e]
  rw [e1, e2]
  have c : ((L.length - (k + 1) : Nat) : Int) = (L.length : Int) - (k : Int) - 1 := by omega
  have c2 : ((k + 1 : Nat) : Int) = (k : Int) + 1 := by omega
  rw [c] at a2
  rw [c2] at a1
  have e3 : (t - m) * (2 * (k : Int) + 2 - (L.length : Int)) = (t - m) * ((k : Int) + 1) + (-(t - m)) * ((L.length : Int) - (k : Int) - 1) := by
    rw [Int.neg_mul, ← Int.sub_eq_add_neg, ← Int.mul_sub]
    congr 1; omega
  rw [e3]
  omega
/-- the least t with the least sum of distances to n heights -/
structure IsMed (n : Nat) (D : Nat → Int) (m : Int) : Prop where
  at_ : ∃ i, i < n ∧ m = D i
  min : ∀ t, sumS ((List.range n).map D) m ≤ sumS ((List.range n).map D) t
  least : ∀ t, t < m → sumS ((List.range n).map D) m < sumS ((List.range n).map D) t
theorem IsMed.uniq {n : Nat} {D : Nat → Int} {m m' : Int} (a : IsMed n D m) (b : IsMed n D m') : m = m' := by
  rcases Int.lt_trichotomy m m' with h | h | h
  · have := b.least m h; have := a.min m'; omega
  · exact h
  · have := a.least m' h; have := b.min m; omega
/-- sorted, the lower middle one; the upper middle one has the same sum -/
theorem med_of {n : Nat} {D : Nat → Int} {L : List Int} (hn : 1 ≤ n) (hp : L.Perm ((List.range n).map D)) (hs : L.Pairwise (· ≤ ·)) : ∃ m M, L[(n - 1) / 2]? = some m ∧ L[n / 2]? = some M ∧ IsMed n D m ∧ m ≤ M ∧ sumS L m = sumS L M := by
  have hl : L.length = n := by rw [hp.length_eq, List.length_map, List.length_range]
  have h1 : (n - 1) / 2 < L.length := by omega
  have h2 : n / 2 < L.length := by omega
  have k1 : L[(n - 1) / 2]? = some L[(n - 1) / 2] := List.getElem?_eq_getElem h1
  have k2 : L[n / 2]? = some L[n / 2] := List.getElem?_eq_getElem h2
  generalize L[(n - 1) / 2] = m at k1
  generalize L[n / 2] = M at k2
  have hmM : m ≤ M := by
    by_cases z : (n - 1) / 2 = n / 2
    · rw [z, k2] at k1; have := Option.some.inj k1; omega
    · obtain ⟨a1, a2⟩ := List.getElem?_eq_some_iff.mp k1
      obtain ⟨b1, b2⟩ := List.getElem?_eq_some_iff.mp k2
      rw [← a2, ← b2]
      exact List.pairwise_iff_getElem.mp hs _ _ a1 b1 (by omega)
  have pos : ∀ a b : Int, 0 ≤ a → 0 ≤ b → 0 ≤ a * b := fun a b ha hb => Int.mul_nonneg ha hb
  have min1 : ∀ t, sumS L m ≤ sumS L t := fun t => by
    rcases Int.le_total t m with h | h
    · have := med_lt hs k1 h
      have := pos (m - t) ((L.length : Int) - 2 * (((n - 1) / 2 : Nat) : Int)) (by omega) (by omega)
      omega
    · have := med_gt hs k1 h
      have := pos (t - m) (2 * (((n - 1) / 2 : Nat) : Int) + 2 - (L.length : Int)) (by omega) (by omega)
      omega
  have min2 : ∀ t, sumS L M ≤ sumS L t := fun t => by
    rcases Int.le_total t M with h | h
    · have := med_lt hs k2 h
      have := pos (M - t) ((L.length : Int) - 2 * ((n / 2 : Nat) : Int)) (by omega) (by omega)
      omega
    · have := med_gt hs k2 h
      have := pos (t - M) (2 * ((n / 2 : Nat) : Int) + 2 - (L.length : Int)) (by omega) (by omega)
      omega
  refine ⟨m, M, k1, k2, ⟨?_, fun t => ?_, fun t ht => ?_⟩, hmM, ?_⟩
  · have := hp.mem_iff.mp (List.mem_of_getElem? k1)
    obtain ⟨i, hi, e⟩ := List.mem_map.mp this
    exact ⟨i, List.mem_range.mp hi, e.symm⟩
  · rw [← sumS_perm hp, ← sumS_perm hp]; exact min1 t
  · rw [← sumS_perm hp, ← sumS_perm hp]
    have h := med_lt hs k1 (by omega : t ≤ m)
    have : 1 * 1 ≤ (m - t) * ((L.length : Int) - 2 * (((n - 1) / 2 : Nat) : Int)) := Int.mul_le_mul (by omega) (by omega) (by decide) (by omega)
    omega
  · have := min1 M; have := min2 m; omega
end Tr
end
section
set_option Elab.async false
set_option linter.all false
set_option maxRecDepth 100000
set_option maxHeartbeats 4000000
namespace Tr
open PySem PySem.Spec PyProof.Rows L2 Evl
/-! ### heights -/
def tabI (n : Nat) (h : Nat → Int) : List Int := (List.range n).map h
theorem tabI_get {n : Nat} {h : Nat → Int} {i : Nat} (hi : i < n) : (tabI n h)[i]? = some (h i) := tab_get hi
theorem tabI_len (n : Nat) (h : Nat → Int) : (tabI n h).length = n := by unfold tabI; rw [List.length_map, List.length_range]
theorem iV_tab {n : Nat} {h : Nat → Int} : iV (tabI n h) = (List.range n).map fun i => V.int (h i) := by unfold iV tabI; rw [List.map_map]; rfl
/-- a laying: heights of n fields, neighbors one step apart -/
structure LayOk (n : Nat) (es : List (Nat × Nat)) (h : Nat → Int) : Prop where
  bd : ∀ i, i < n → -1000000 ≤ h i ∧ h i ≤ 1000000
  st : ∀ e ∈ es, absI (h e.1 - h e.2) = 1
def LayV (S : Hp) (v : V) (n : Nat) (h : Nat → Int) : Prop := TupA S v (iV (tabI n h))
theorem LayV.mono {S S' : Hp} {v : V} {n : Nat} {h : Nat → Int} (e : Ex S S') (q : LayV S v n h) : LayV S' v n h := TupA.mono e q
section
variable {K : PySem.W.Frag} {σ : L2.St} {S H : Hp} {ta te : TE}
/-- a, b over a tuple of pairs of fields -/
theorem turns_pairs {b : V} {es : List (Nat × Nat)} {j k : Nat} (h : Ev te σ S b) (hB : PairsT S b es) : Turns (iTup K te) (gTup K 2 (gCons (gName j) (gCons (gName k) gNil))) σ S es.length fun i σ' => (σ'.set j (some (.int ((es.getD i (0, 0)).1 : Int)))).set k (some (.int ((es.getD i (0, 0)).2 : Int))) := by
  obtain ⟨ps, ⟨a, rfl, ha⟩, hps⟩ := hB
  rw [← hps.length]
  refine turns_tup h (st_of ha) fun i x H σ' Q hx e q => ?_
  obtain ⟨p, hp, t, rfl, ht⟩ := pget hps hx
  have ep : es.getD i (0, 0) = p := by rw [List.getD_eq_getElem?_getD, hp]; rfl
  have := q H (Ex.refl _)
  rw [ep] at this
  exact g_pair (st_of (e _ _ ht)) this
def rAbs : List V → Hp → VK → Prop := fun xs H Q => ∃ i, xs = [.int i] ∧ Q (.int (if i < 0 then -i else i)) H
theorem ev_abs {i : Int} (h : Ev ta σ S (.int i)) : Ev (tCB rAbs (tCons ta tNil)) σ S (.int (absI i)) := ev_cb (ea_cons h ea_nil) fun H1 _ Q q => ⟨i, rfl, q H1 (Ex.refl H1)⟩
theorem ev_bl {b c : Bool} (h : Ev te σ S (.bl b)) (e : b = c) : Ev te σ S (.bl c) := e ▸ h
theorem es_getD {es : List (Nat × Nat)} {i : Nat} (hi : i < es.length) : es.getD i (0, 0) ∈ es := by
  rw [List.getD_eq_getElem?_getD, List.getElem?_eq_getElem hi]; exact List.getElem_mem hi
end
section
variable {P : Program} {w : World} {K : PySem.W.Frag} {mg : Str → Option Value} {base : Heap}
/-! ### sign_of, need_field -/
def sp_need_field : Sp := fun vs H Q _ => ∃ (v : V) (n : Nat) (b : V) (i : Nat), vs = [v, .int (i : Int)] ∧ TupA H v [.int (n : Int), b] ∧ i < n ∧ RetV .non H Q
theorem ok_need_field (T : Tx K mg) : OkD P w K mg base 3 "need_field" ["web", "value"] sp_need_field := by
  refine mk_need_field T (fun vs H Q E h => ?_) (fun f cdv A outer s H vs Q E hr h => ?_)
  · obtain ⟨v, n, b, i, rfl, _⟩ := h
    rfl
  · obtain ⟨v, n, b, i, rfl, hT, hi, q⟩ := h
    refine ⟨_, (pss_one (ps_if (pt_not (pt_val (pcall (ok_is_in T) (hr.mono (by decide)) (pa_cons (pv 1) (pa_cons pe_int (pa_cons (pe_op op_sub (pe_ix (ixTK K) (pv 0) pe_int (fun _ _ => rfl)) pe_int) pa_nil))))))
      (pss_one ps_never)
      pss_nil)), ?_⟩
    exact s_when (b := !true) (et_not (et_B (ev_call (ea_cons (ev_var rfl) (ea_cons ev_c (ea_cons (ev_op (ev_ixT (j := 0) (ev_var rfl) ev_c hT rfl) ev_c rv_I0) ea_nil))) (sp_is_in_ok (by simp; omega))))) (fun hb => absurd hb (by decide)) (fun _ H1 e1 => q H1 e1)
def sgn (d : Nat) : Int := if d % 2 = 0 then 1 else -1
def sp_sign_of : Sp := fun vs H Q _ => ∃ (v : V) (xs : List Nat) (i d : Nat), vs = [v, .int (i : Int)] ∧ LstA H v (nV xs) ∧ xs[i]? = some d ∧ RetV (.int (sgn d)) H Q
theorem ok_sign_of (T : Tx K mg) : OkD P w K mg base 1 "sign_of" ["even", "one"] sp_sign_of := by
  refine mk_sign_of T (fun vs H Q E h => ?_) (fun f cdv A outer s H vs Q E hr h => ?_)
  · obtain ⟨v, xs, i, d, rfl, _⟩ := h
    rfl
  · obtain ⟨v, xs, i, d, rfl, hv, hx, q⟩ := h
    refine ⟨_, (pss_one (ps_ret (pe_ifExp (pt_cmpR op_eq (pe_op op_modN (pe_ix (ixLK K) (pv 0) (pv 1) (fun _ _ => rfl)) pe_int) pe_int (nomark _)) pe_int (pe_un un_neg pe_int)))), ?_⟩
    refine s_ret (v := .int (sgn d)) (ev_if (b := decide (V.int (Int.fmod (d : Int) 2) = V.int 0)) (et_test (ev_op (ev_op (ev_ixL (j := i) (ev_var rfl) (ev_var rfl) hv (nV_get hx)) ev_c (rv_I (by decide))) ev_c (rv_eq rfl))) (fun hb => ?_) (fun hb => ?_)) q
    · have := of_decide_eq_true hb
      have z : Int.fmod (d : Int) 2 = 0 := by injection this
      rw [Int.fmod_eq_emod_of_nonneg _ (by decide)] at z
      have e : sgn d = 1 := by unfold sgn; rw [if_pos (by omega)]
      rw [e]; exact ev_c
    · have := of_decide_eq_false hb
      have z : Int.fmod (d : Int) 2 ≠ 0 := fun z => this (by rw [z])
      rw [Int.fmod_eq_emod_of_nonneg _ (by decide)] at z
      have e : sgn d = -1 := by unfold sgn; rw [if_neg (by omega)]
      rw [e]; exact ev_un ev_c ru_neg
/-! ### layings -/
def sp_is_laying : Sp := fun vs H Q _ => ∃ (v : V) (n : Nat) (es : List (Nat × Nat)) (l : V) (h : Nat → Int), vs = [v, l] ∧ WebV H v n es ∧ EdgesOk n es ∧ LayV H l n h ∧ LayOk n es h ∧ RetV (.bl true) H Q
theorem ok_is_laying_of (T : Tx K mg) : OkD P w K mg base 3 "is_laying_of" ["web", "value"] sp_is_laying := by
  refine mk_is_laying_of T (fun vs H Q E h => ?_) (fun f cdv A outer s H vs Q E hr h => ?_)
  · obtain ⟨v, n, es, l, h, rfl, _⟩ := h
    rfl
  · obtain ⟨v, n, es, l, h, rfl, ⟨b, hT, hB⟩, ok, hL, lo, q⟩ := h
    obtain ⟨tM, hMH⟩ := T.int "MOST_HEIGHT" 1000000 (List.mem_of_getElem? (i := 1) rfl)
    refine ⟨_, (pss_cons (ps_if (PW.pt (pw_or (pt_not (pt_val (pe_callB (isiK K) (by rfl) T.b_isinstance (by decide +kernel) (pa_cons (pv 1) (pa_cons (pe_bltn (v := .ty "tuple") (by rfl) T.b_tuple (by decide +kernel) rfl) pa_nil))))) (pw_or1 (pt_cmpR op_ne (pe_callB (lenK K) (by rfl) T.b_len (by decide +kernel) (pa_cons (pv 1) pa_nil)) (pe_ix (ixTK K) (pv 0) pe_int (fun _ _ => rfl)) (nomark _)))))
      (pss_one (ps_ret pe_bl))
      pss_nil)
    (pss_cons (ps_if (pt_not (pt_val (pe_callB (allK K) (by rfl) T.b_all (by decide +kernel) (pa_cons (pe_lc (own := [("height", 4)]) (g := (gName 4)) rfl sc_is_laying_of.nd (piTK K (pv 1)) (blkOk_by (own := [("height", 4)]) (N := N_is_laying_of) (sc := defScope s_is_laying_of) (by decide +kernel)) (fun _ _ _ _ _ => (pg_name (i := 4) sc_is_laying_of.nd rfl (Or.inl rfl))) (fun _ _ _ _ _ => pts_nil) (fun _ _ _ _ _ => (pcall (ok_is_in T) (hr.mono (by decide)) (pa_cons (pv 4) (pa_cons (pe_un un_neg (pe_glob (v := .int 1000000) (by rfl) hMH ⟨_, rfl⟩)) (pa_cons (pe_glob (v := .int 1000000) (by rfl) hMH ⟨_, rfl⟩) pa_nil)))))) pa_nil))))
      (pss_one (ps_ret pe_bl))
      pss_nil)
    (pss_one (ps_ret (pe_callB (allK K) (by rfl) T.b_all (by decide +kernel) (pa_cons (pe_lc (own := [("one", 2), ("other", 3)]) (g := (gTup K 2 (gCons (gName 2) (gCons (gName 3) gNil)))) rfl sc_is_laying_of.nd (piTK K (pe_ix (ixTK K) (pv 0) pe_int (fun _ _ => rfl))) (blkOk_by (own := [("one", 2), ("other", 3)]) (N := N_is_laying_of) (sc := defScope s_is_laying_of) (by decide +kernel)) (fun _ _ _ _ _ => (pg_tup rfl (pgs_cons (pg_name (i := 2) sc_is_laying_of.nd rfl (Or.inl rfl)) (pgs_cons (pg_name (i := 3) sc_is_laying_of.nd rfl (Or.inl rfl)) pgs_nil)))) (fun _ _ _ _ _ => pts_nil) (fun _ _ _ _ _ => (pe_cmpR op_eq (pe_callB call_abs (by rfl) T.b_abs (by decide +kernel) (pa_cons (pe_op op_sub (pe_ix (ixTK K) (pv 1) (pv 2) (fun _ _ => rfl)) (pe_ix (ixTK K) (pv 1) (pv 3) (fun _ _ => rfl))) pa_nil)) pe_int (nomark _)))) pa_nil)))))), ?_⟩
    obtain ⟨al, el, hal⟩ := id hL
    have hin : (iV (tabI n h)).length = n := by rw [iV_len, tabI_len]
    refine q_when (b := !true || !decide (V.int (((iV (tabI n h)).length : Nat) : Int) = V.int (n : Int))) (et_or (et_not (et_B (ev_cb (ea_cons (ev_var rfl) (ea_cons ev_c ea_nil)) (rc_isi (ty_tup hL) (by decide +kernel))))) (fun _ => et_test (ev_op (ev_lenT (ev_var rfl) hL) (ev_ixT (j := 0) (ev_var rfl) ev_c hT rfl) (rv_ne rfl)))) (fun hb => ?_) (fun _ H1 e1 => ?_)
    · rw [hin] at hb; simp at hb
    refine q_when (b := !true) (et_not (et_B (ev_all ?_))) (fun hb => absurd hb (by decide)) (fun _ H2 e2 => ?_)
    · refine EvG.imp (lc_map (n := n) (u := fun i σ' => σ'.set 4 (some ((iV (tabI n h)).getD i .non))) (fun i => V.bl true) (by
          have := turns_tup (K := K) (σ := start N_is_laying_of [v, l]) (S := H1) (a := al) (xs := iV (tabI n h)) (tl := tVar 1) (g := gName 4) (u := fun i σ' => σ'.set 4 (some ((iV (tabI n h)).getD i .non))) (by rw [← el]; exact ev_var rfl) (st_of (e1 _ _ hal)) (tab_turn (K := K))
          rw [hin] at this
          exact this) (fun i _ => set1_wipe _ _ _) (by have := ok.hi; omega) (fun i S1 hi e3 => ?_)) fun v S' _ hv => ⟨(List.range n).map fun _ => true, by rw [List.map_map]; exact hv, all_map fun _ _ => rfl⟩
      have hb := lo.bd i hi
      refine ev_call (ea_cons (ev_var (v := .int (h i)) ?_) (ea_cons (ev_un ev_c ru_neg) (ea_cons ev_c ea_nil))) (sp_is_in_ok (by simp; omega))
      rw [getD_of (iV_get (tabI_get hi))]; rfl
    have e02 := e1.trans e2
    refine s_ret (v := .bl true) (ev_all ?_) (fun H3 e3 => q H3 (e02.trans e3))
    refine EvG.imp (lc_map (n := es.length) (fun i => V.bl true) (turns_pairs (j := 2) (k := 3) (ev_ixT (j := 1) (ev_var rfl) ev_c (hT.mono e02) rfl) (hB.mono e02)) (fun i _ => set2_wipe _ _ _ _ _) (by have := ok.few; omega) (fun i S1 hi e3 => ?_)) fun v S' _ hv => ⟨(List.range es.length).map fun _ => true, by rw [List.map_map]; exact hv, all_map fun _ _ => rfl⟩
    have hm := es_getD hi
    generalize es.getD i (0, 0) = e at hm
    have hok := ok.ok e hm
    have hL3 := (hL.mono e02).mono e3
    refine ev_bl (ev_op (ev_abs (ev_op (ev_ixT (j := e.1) (ev_var rfl) (ev_var rfl) hL3 (iV_get (tabI_get (by omega)))) (ev_ixT (j := e.2) (ev_var rfl) (ev_var rfl) hL3 (iV_get (tabI_get (by omega)))) rv_I0)) ev_c (rv_eq rfl)) ?_
    rw [lo.st e hm]; rfl
def sp_lay : Sp := fun vs H Q _ => ∃ (v : V) (n : Nat) (es : List (Nat × Nat)) (l : V) (h : Nat → Int), vs = [v, l] ∧ WebV H v n es ∧ EdgesOk n es ∧ LayV H l n h ∧ LayOk n es h ∧ RetV .non H Q
theorem sp_is_laying_ok {S : Hp} {v l : V} {n : Nat} {es : List (Nat × Nat)} {h : Nat → Int} (hW : WebV S v n es) (ok : EdgesOk n es) (hL : LayV S l n h) (lo : LayOk n es h) : SpV sp_is_laying ([v, l] ++ []) S (.bl true) := fun H e Q q _ => ⟨v, n, es, l, h, rfl, hW.mono e, ok, hL.mono e, lo, q⟩
theorem sp_lay_ok {S : Hp} {v l : V} {n : Nat} {es : List (Nat × Nat)} {h : Nat → Int} (hW : WebV S v n es) (ok : EdgesOk n es) (hL : LayV S l n h) (lo : LayOk n es h) : SpV sp_lay ([v, l] ++ []) S .non := fun H e Q q _ => ⟨v, n, es, l, h, rfl, hW.mono e, ok, hL.mono e, lo, q⟩
theorem ok_need_laying (T : Tx K mg) : OkD P w K mg base 4 "need_laying" ["web", "value"] sp_lay := by
  refine mk_need_laying T (fun vs H Q E h => ?_) (fun f cdv A outer s H vs Q E hr h => ?_)
  · obtain ⟨v, n, es, l, h, rfl, _⟩ := h
    rfl
  · obtain ⟨v, n, es, l, h, rfl, hW, ok, hL, lo, q⟩ := h
    refine ⟨_, (pss_one (ps_if (pt_not (pt_val (pcall (ok_is_laying_of T) (hr.mono (by decide)) (pa_cons (pv 0) (pa_cons (pv 1) pa_nil)))))
      (pss_one ps_never)
      pss_nil)), ?_⟩
    exact s_when (b := !true) (et_not (et_B (ev_call (ea_cons (ev_var rfl) (ea_cons (ev_var rfl) ea_nil)) (sp_is_laying_ok hW ok hL lo)))) (fun hb => absurd hb (by decide)) (fun _ H1 e1 => q H1 e1)
def sp_one : Sp := fun vs H Q _ => ∃ (v : V) (n : Nat) (es : List (Nat × Nat)) (c : Nat → Nat) (l : V) (h : Nat → Int), vs = [v, l] ∧ WebV H v n es ∧ WebOk n es c ∧ LayV H l n h ∧ LayOk n es h ∧ RetV .non H Q
theorem sp_one_ok {S : Hp} {v l : V} {n : Nat} {es : List (Nat × Nat)} {c : Nat → Nat} {h : Nat → Int} (hW : WebV S v n es) (ok : WebOk n es c) (hL : LayV S l n h) (lo : LayOk n es h) : SpV sp_one ([v, l] ++ []) S .non := fun H e Q q _ => ⟨v, n, es, c, l, h, rfl, hW.mono e, ok, hL.mono e, lo, q⟩
theorem ok_need_one (T : Tx K mg) : OkD P w K mg base 6 "need_one" ["web", "laying"] sp_one := by
  refine mk_need_one T (fun vs H Q E h => ?_) (fun f cdv A outer s H vs Q E hr h => ?_)
  · obtain ⟨v, n, es, c, l, h, rfl, _⟩ := h
    rfl
  · obtain ⟨v, n, es, c, l, h, rfl, hW, ok, hL, lo, q⟩ := h
    refine ⟨_, (pss_cons (ps_expr (pcall (ok_need_web T) (hr.mono (by decide)) (pa_cons (pv 0) pa_nil)))
    (pss_one (ps_expr (pcall (ok_need_laying T) (hr.mono (by decide)) (pa_cons (pv 0) (pa_cons (pv 1) pa_nil)))))), ?_⟩
    refine q_drop (ev_call (ea_cons (ev_var rfl) ea_nil) (sp_web_ok hW ok)) (fun H1 e1 => ?_)
    exact s_drop (ev_call (ea_cons (ev_var rfl) (ea_cons (ev_var rfl) ea_nil)) (sp_lay_ok (hW.mono e1) ok.form.edges (hL.mono e1) lo)) (fun H2 e2 => q H2 (e1.trans e2))
def sp_two (R : Nat → List (Nat × Nat) → (Nat → Int) → (Nat → Int) → V) : Sp := fun vs H Q _ => ∃ (v : V) (n : Nat) (es : List (Nat × Nat)) (c : Nat → Nat) (l m : V) (h g : Nat → Int), vs = [v, l, m] ∧ WebV H v n es ∧ WebOk n es c ∧ LayV H l n h ∧ LayOk n es h ∧ LayV H m n g ∧ LayOk n es g ∧ (h 0 - g 0) % 2 = 0 ∧ RetV (R n es h g) H Q
theorem sp_two_ok {R : Nat → List (Nat × Nat) → (Nat → Int) → (Nat → Int) → V} {S : Hp} {v l m : V} {n : Nat} {es : List (Nat × Nat)} {c : Nat → Nat} {h g : Nat → Int} (hW : WebV S v n es) (ok : WebOk n es c) (hL : LayV S l n h) (lo : LayOk n es h) (hM : LayV S m n g) (mo : LayOk n es g) (hp : (h 0 - g 0) % 2 = 0) : SpV (sp_two R) ([v, l, m] ++ []) S (R n es h g) :=
  fun H e Q q _ => ⟨v, n, es, c, l, m, h, g, rfl, hW.mono e, ok, hL.mono e, lo, hM.mono e, mo, hp, q⟩
theorem ok_need_two (T : Tx K mg) : OkD P w K mg base 7 "need_two" ["web", "one", "other"] (sp_two fun _ _ _ _ => .non) := by
  refine mk_need_two T (fun vs H Q E h => ?_) (fun f cdv A outer s H vs Q E hr h => ?_)
  · obtain ⟨v, n, es, c, l, m, h, g, rfl, _⟩ := h
    rfl
  · obtain ⟨v, n, es, c, l, m, h, g, rfl, hW, ok, hL, lo, hM, mo, hp, q⟩ := h
    refine ⟨_, (pss_cons (ps_expr (pcall (ok_need_one T) (hr.mono (by decide)) (pa_cons (pv 0) (pa_cons (pv 1) pa_nil))))
    (pss_cons (ps_expr (pcall (ok_need_laying T) (hr.mono (by decide)) (pa_cons (pv 0) (pa_cons (pv 2) pa_nil))))
    (pss_one (ps_if (pt_cmpR op_ne (pe_op op_modN (pe_op op_sub (pe_ix (ixTK K) (pv 1) pe_int (fun _ _ => rfl)) (pe_ix (ixTK K) (pv 2) pe_int (fun _ _ => rfl))) pe_int) pe_int (nomark _))
      (pss_one ps_never)
      pss_nil)))), ?_⟩
    have h1 := ok.form.lo
    refine q_drop (ev_call (ea_cons (ev_var rfl) (ea_cons (ev_var rfl) ea_nil)) (sp_one_ok hW ok hL lo)) (fun H1 e1 => ?_)
    refine q_drop (ev_call (ea_cons (ev_var rfl) (ea_cons (ev_var rfl) ea_nil)) (sp_lay_ok (hW.mono e1) ok.form.edges (hM.mono e1) mo)) (fun H2 e2 => ?_)
    have e02 := e1.trans e2
    refine s_when (b := !decide (V.int (Int.fmod (h 0 - g 0) 2) = V.int 0)) (et_test (ev_op (ev_op (ev_op (ev_ixT (j := 0) (ev_var rfl) ev_c (hL.mono e02) (iV_get (tabI_get (by omega)))) (ev_ixT (j := 0) (ev_var rfl) ev_c (hM.mono e02) (iV_get (tabI_get (by omega)))) rv_I0) ev_c (rv_I (by decide))) ev_c (rv_ne rfl))) (fun hb => ?_) (fun _ H3 e3 => q H3 (e02.trans e3))
    rw [Int.fmod_eq_emod_of_nonneg _ (by decide), hp] at hb
    exact absurd hb (by decide)
end
end Tr
end
section
set_option Elab.async false
set_option linter.all false
set_option maxRecDepth 100000
set_option maxHeartbeats 4000000
namespace Tr
open PySem PySem.Spec PyProof.Rows L2 Evl
/-! ### texts of folds -/
def let1 (b : Bool) : Str := ⟨#[if b then 77 else 86]⟩
def foldT (bs : List Bool) : Str := ⟨(bs.map fun b => if b then 77 else 86).toArray⟩
theorem let_M : (("M" : String) : Str) = let1 true := by decide +kernel
theorem let_V : (("V" : String) : Str) = let1 false := by decide +kernel
theorem foldT_len (bs : List Bool) : (foldT bs).length = bs.length := by
  show (bs.map _).toArray.size = _
  rw [List.size_toArray, List.length_map]
theorem foldT_snoc (bs : List Bool) (b : Bool) : foldT (bs ++ [b]) = foldT bs ++ let1 b := by
  show (⟨_⟩ : Str) = ⟨_ ++ _⟩
  rw [List.map_append]
  simp [foldT, let1]
theorem foldT_inj {as bs : List Bool} (h : foldT as = foldT bs) : as = bs := by
  have h1 : (as.map fun b => if b then 77 else 86) = bs.map fun b => if b then 77 else 86 := by
    have := congrArg (fun s : Str => s.cps.toList) h
    simpa [foldT] using this
  exact (List.map_inj_right (f := fun b : Bool => if b then 77 else 86) (fun a b => by cases a <;> cases b <;> simp)).mp h1
theorem joinL_nil : ∀ ps : List (List Nat), TL.joinL [] ps = ps.flatten
  | [] => rfl
  | [p] => by simp [TL.joinL]
  | p :: q :: r => by
    show p ++ ([] ++ TL.joinL [] (q :: r)) = _
    rw [joinL_nil (q :: r)]; simp
theorem join_lets (bs : List Bool) : Txt.join (("" : String) : Str) (bs.map let1) = foldT bs := by
  rw [TL.join_eq]
  refine TL.ext_tl ?_
  rw [TL.tl_join, show TL.tl (("" : String) : Str) = [] from by decide +kernel, joinL_nil]
  show _ = TL.tl (foldT bs)
  have e : TL.tl (foldT bs) = bs.map fun b => if b then 77 else 86 := by
    show (foldT bs).cps.toList = _
    simp [foldT]
  rw [e]
  clear e
  induction bs with
  | nil => rfl
  | cons b r ih =>
    rw [List.map_cons, List.map_cons, List.flatten_cons, ih, List.map_cons]
    rfl
theorem lets_len (bs : List Bool) : ((bs.map let1).map (·.length)).sum = bs.length := by
  induction bs with
  | nil => rfl
  | cons b r ih =>
    rw [List.map_cons, List.map_cons, List.sum_cons, ih, List.length_cons]
    show 1 + r.length = r.length + 1
    omega
/-- the letter of a hedge: M (true) where the even field lies lower -/
def foldB (c : Nat → Nat) (h : Nat → Int) (e : Nat × Nat) : Bool := decide (0 < (h e.2 - h e.1) * sgn (c e.1 + c 0))
def foldsL (es : List (Nat × Nat)) (c : Nat → Nat) (h : Nat → Int) : List Bool := es.map (foldB c h)
theorem sgn_mod {a b : Nat} (h : a % 2 = b % 2) : sgn a = sgn b := by unfold sgn; rw [h]
theorem sgn_or (a : Nat) : sgn a = 1 ∨ sgn a = -1 := by unfold sgn; split <;> simp
/-- the sum of differences -/
def sumD (n : Nat) (h g : Nat → Int) : Int := ((List.range n).map fun i => absI (h i - g i)).sum
section
variable {K : PySem.W.Frag} {σ : L2.St} {S H : Hp} {ta te : TE}
theorem turns_zipII {l m : V} {n j k : Nat} {h g : Nat → Int} {t1 t2 : TE} (h1 : Ev t1 σ S l) (h2 : Ev t2 σ S m) (hL : LayV S l n h) (hM : LayV S m n g) : Turns (RZ.iZipA K (tCons t1 (tCons t2 tNil))) (gTup K 2 (gCons (gName j) (gCons (gName k) gNil))) σ S n fun i σ' => (σ'.set j (some (.int (h i)))).set k (some (.int (g i))) := by
  obtain ⟨a, rfl, ha⟩ := hL
  obtain ⟨b, rfl, hb⟩ := hM
  refine turns_zip (P := fun vs _ => vs = [.ref a, .ref b]) (eag_cons h1 (eag_cons h2 (eag_nil rfl))) fun vs S1 e hv => ⟨a, b, iV (tabI n h), iV (tabI n g), hv, .inr ⟨st_of (e _ _ ha), st_of (e _ _ hb)⟩, by rw [iV_len, iV_len, tabI_len, tabI_len, Nat.min_self], fun i x y T H σ' Q hx hy e' hT q => ?_⟩
  have hi : i < n := by
    obtain ⟨q, _⟩ := List.getElem?_eq_some_iff.mp hx
    rw [iV_len, tabI_len] at q; exact q
  rw [iV_get (tabI_get hi)] at hx hy
  cases hx; cases hy
  exact g_pair (st_of hT) (q H (Ex.refl _))
end
section
variable {P : Program} {w : World} {K : PySem.W.Frag} {mg : Str → Option Value} {base : Heap}
/-! ### steps_between, _law_apart, distance -/
def sp_apart : Sp := fun vs H Q _ => ∃ (l m : V) (n : Nat) (h g : Nat → Int), vs = [l, m] ∧ n ≤ 60 ∧ LayV H l n h ∧ LayV H m n g ∧ RetV (.int ((sumD n h g).fdiv 2)) H Q
theorem sp_apart_ok {S : Hp} {l m : V} {n : Nat} {h g : Nat → Int} (hn : n ≤ 60) (hL : LayV S l n h) (hM : LayV S m n g) : SpV sp_apart ([l, m] ++ []) S (.int ((sumD n h g).fdiv 2)) := fun H e Q q _ => ⟨l, m, n, h, g, rfl, hn, hL.mono e, hM.mono e, q⟩
def t_apart (K : PySem.W.Frag) : TS := tRet (tOp (rI CDivN fun i j => .int (i.fdiv j)) (tCB (rSum K) (tCons (tLc (RZ.iZipA K (tCons (tVar 0) (tCons (tVar 1) tNil))) (gTup K 2 (gCons (gName 2) (gCons (gName 3) gNil))) tYes (tCB rAbs (tCons (tOp (rI0 fun i j => .int (i - j)) (tVar 2) (tVar 3)) tNil)) [2, 3]) tNil)) (tC (.int 2)))
theorem rd_apart {H : Hp} {l m : V} {n : Nat} {h g : Nat → Int} {Q : VK} {nx : L2.St → Hp → Prop} (hn : n ≤ 60) (hL : LayV H l n h) (hM : LayV H m n g) (q : RetV (.int ((sumD n h g).fdiv 2)) H Q) : t_apart K { nx := nx, rt := Q } [some l, some m, none, none] H := by
  refine s_ret (ev_op (x := .int (sumD n h g)) (y := .int 2) (ev_sum ?_) ev_c (rv_I ⟨by decide, by decide⟩)) q
  refine EvG.imp (lc_map (n := n) (fun i => V.int (absI (h i - g i))) (turns_zipII (ev_var rfl) (ev_var rfl) hL hM) (fun i _ => set2_wipe _ _ _ _ _) (by omega) (fun i S1 hi e => ev_abs (ev_op (ev_var rfl) (ev_var rfl) rv_I0))) fun v S' _ hv => ⟨_, by unfold iV; rw [List.map_map]; exact hv, rfl⟩
theorem ok_steps_between (T : Tx K mg) : OkD P w K mg base 1 "steps_between" ["one", "other"] sp_apart := by
  refine mk_steps_between T (fun vs H Q E h => ?_) (fun f cdv A outer s H vs Q E hr h => ?_)
  · obtain ⟨l, m, n, h, g, rfl, _⟩ := h
    rfl
  · obtain ⟨l, m, n, h, g, rfl, hn, hL, hM, q⟩ := h
    exact ⟨t_apart K, (pss_one (ps_ret (pe_op op_fdivN (pe_callB (sumK K) (by rfl) T.b_sum (by decide +kernel) (pa_cons (pe_lc (own := [("height", 2), ("more", 3)]) (g := (gTup K 2 (gCons (gName 2) (gCons (gName 3) gNil)))) rfl sc_steps_between.nd (RZ.pi_zipA (by rfl) T.b_zip (pa_cons (pv 0) (pa_cons (pv 1) pa_nil))) (blkOk_by (own := [("height", 2), ("more", 3)]) (N := N_steps_between) (sc := defScope s_steps_between) (by decide +kernel)) (fun _ _ _ _ _ => (pg_tup rfl (pgs_cons (pg_name (i := 2) sc_steps_between.nd rfl (Or.inl rfl)) (pgs_cons (pg_name (i := 3) sc_steps_between.nd rfl (Or.inl rfl)) pgs_nil)))) (fun _ _ _ _ _ => pts_nil) (fun _ _ _ _ _ => (pe_callB call_abs (by rfl) T.b_abs (by decide +kernel) (pa_cons (pe_op op_sub (pv 2) (pv 3)) pa_nil)))) pa_nil)) pe_int))), rd_apart hn hL hM q⟩
theorem ok__law_apart (T : Tx K mg) : OkD P w K mg base 1 "_law_apart" ["_law_one", "_law_other"] sp_apart := by
  refine mk__law_apart T (fun vs H Q E h => ?_) (fun f cdv A outer s H vs Q E hr h => ?_)
  · obtain ⟨l, m, n, h, g, rfl, _⟩ := h
    rfl
  · obtain ⟨l, m, n, h, g, rfl, hn, hL, hM, q⟩ := h
    exact ⟨t_apart K, (pss_one (ps_ret (pe_op op_fdivN (pe_callB (sumK K) (by rfl) T.b_sum (by decide +kernel) (pa_cons (pe_lc (own := [("_law_height", 2), ("_law_more", 3)]) (g := (gTup K 2 (gCons (gName 2) (gCons (gName 3) gNil)))) rfl sc__law_apart.nd (RZ.pi_zipA (by rfl) T.b_zip (pa_cons (pv 0) (pa_cons (pv 1) pa_nil))) (blkOk_by (own := [("_law_height", 2), ("_law_more", 3)]) (N := N__law_apart) (sc := defScope s__law_apart) (by decide +kernel)) (fun _ _ _ _ _ => (pg_tup rfl (pgs_cons (pg_name (i := 2) sc__law_apart.nd rfl (Or.inl rfl)) (pgs_cons (pg_name (i := 3) sc__law_apart.nd rfl (Or.inl rfl)) pgs_nil)))) (fun _ _ _ _ _ => pts_nil) (fun _ _ _ _ _ => (pe_callB call_abs (by rfl) T.b_abs (by decide +kernel) (pa_cons (pe_op op_sub (pv 2) (pv 3)) pa_nil)))) pa_nil)) pe_int))), rd_apart hn hL hM q⟩
theorem ok_distance (T : Tx K mg) : OkD P w K mg base 8 "distance" ["web", "one", "other"] (sp_two fun n _ h g => .int ((sumD n h g).fdiv 2)) := by
  refine mk_distance T (fun vs H Q E h => ?_) (fun f cdv A outer s H vs Q E hr h => ?_)
  · obtain ⟨v, n, es, c, l, m, h, g, rfl, _⟩ := h
    rfl
  · obtain ⟨v, n, es, c, l, m, h, g, rfl, hW, ok, hL, lo, hM, mo, hp, q⟩ := h
    refine ⟨_, (pss_cons (ps_expr (pcall (ok_need_two T) (hr.mono (by decide)) (pa_cons (pv 0) (pa_cons (pv 1) (pa_cons (pv 2) pa_nil)))))
    (pss_one (ps_ret (pcall (ok_steps_between T) (hr.mono (by decide)) (pa_cons (pv 1) (pa_cons (pv 2) pa_nil)))))), ?_⟩
    refine q_drop (ev_call (ea_cons (ev_var rfl) (ea_cons (ev_var rfl) (ea_cons (ev_var rfl) ea_nil))) (sp_two_ok hW ok hL lo hM mo hp)) (fun H1 e1 => ?_)
    exact s_ret (ev_call (ea_cons (ev_var rfl) (ea_cons (ev_var rfl) ea_nil)) (sp_apart_ok ok.form.hi (hL.mono e1) (hM.mono e1))) (fun H2 e2 => q H2 (e1.trans e2))
/-! ### has_steps, folds_of, folds, moved -/
def sp_has_steps : Sp := fun vs H Q _ => ∃ (v : V) (n : Nat) (es : List (Nat × Nat)) (l : V) (h : Nat → Int), vs = [v, l] ∧ WebV H v n es ∧ EdgesOk n es ∧ LayV H l n h ∧ (∀ e ∈ es, absI (h e.1 - h e.2) = 1) ∧ RetV (.bl true) H Q
theorem ok_has_steps (T : Tx K mg) : OkD P w K mg base 1 "has_steps" ["web", "laying"] sp_has_steps := by
  refine mk_has_steps T (fun vs H Q E h => ?_) (fun f cdv A outer s H vs Q E hr h => ?_)
  · obtain ⟨v, n, es, l, h, rfl, _⟩ := h
    rfl
  · obtain ⟨v, n, es, l, h, rfl, ⟨b, hT, hB⟩, ok, hL, lo, q⟩ := h
    refine ⟨_, (pss_one (ps_ret (pe_callB (allK K) (by rfl) T.b_all (by decide +kernel) (pa_cons (pe_lc (own := [("one", 2), ("other", 3)]) (g := (gTup K 2 (gCons (gName 2) (gCons (gName 3) gNil)))) rfl sc_has_steps.nd (piTK K (pe_ix (ixTK K) (pv 0) pe_int (fun _ _ => rfl))) (blkOk_by (own := [("one", 2), ("other", 3)]) (N := N_has_steps) (sc := defScope s_has_steps) (by decide +kernel)) (fun _ _ _ _ _ => (pg_tup rfl (pgs_cons (pg_name (i := 2) sc_has_steps.nd rfl (Or.inl rfl)) (pgs_cons (pg_name (i := 3) sc_has_steps.nd rfl (Or.inl rfl)) pgs_nil)))) (fun _ _ _ _ _ => pts_nil) (fun _ _ _ _ _ => (pe_cmpR op_eq (pe_callB call_abs (by rfl) T.b_abs (by decide +kernel) (pa_cons (pe_op op_sub (pe_ix (ixTK K) (pv 1) (pv 2) (fun _ _ => rfl)) (pe_ix (ixTK K) (pv 1) (pv 3) (fun _ _ => rfl))) pa_nil)) pe_int (nomark _)))) pa_nil)))), ?_⟩
    refine s_ret (v := .bl true) (ev_all ?_) q
    refine EvG.imp (lc_map (n := es.length) (fun i => V.bl true) (turns_pairs (j := 2) (k := 3) (ev_ixT (j := 1) (ev_var rfl) ev_c hT rfl) hB) (fun i _ => set2_wipe _ _ _ _ _) (by have := ok.few; omega) (fun i S1 hi e3 => ?_)) fun v S' _ hv => ⟨(List.range es.length).map fun _ => true, by rw [List.map_map]; exact hv, all_map fun _ _ => rfl⟩
    have hm := es_getD hi
    generalize es.getD i (0, 0) = e at hm
    have hok := ok.ok e hm
    have hL3 := hL.mono e3
    refine ev_bl (ev_op (ev_abs (ev_op (ev_ixT (j := e.1) (ev_var rfl) (ev_var rfl) hL3 (iV_get (tabI_get (by omega)))) (ev_ixT (j := e.2) (ev_var rfl) (ev_var rfl) hL3 (iV_get (tabI_get (by omega)))) rv_I0)) ev_c (rv_eq rfl)) ?_
    rw [lo e hm]; rfl
def sp_folds_of : Sp := fun vs H Q _ => ∃ (v : V) (n : Nat) (es : List (Nat × Nat)) (c : Nat → Nat) (l : V) (h : Nat → Int), vs = [v, l] ∧ WebV H v n es ∧ WebOk n es c ∧ LayV H l n h ∧ RetV (.str (foldT (foldsL es c h))) H Q
theorem sp_folds_of_ok {S : Hp} {v l : V} {n : Nat} {es : List (Nat × Nat)} {c : Nat → Nat} {h : Nat → Int} (hW : WebV S v n es) (ok : WebOk n es c) (hL : LayV S l n h) : SpV sp_folds_of ([v, l] ++ []) S (.str (foldT (foldsL es c h))) := fun H e Q q _ => ⟨v, n, es, c, l, h, rfl, hW.mono e, ok, hL.mono e, q⟩
theorem ok_folds_of (T : Tx K mg) : OkD P w K mg base 3 "folds_of" ["web", "laying"] sp_folds_of := by
  refine mk_folds_of T (fun vs H Q E h => ?_) (fun f cdv A outer s H vs Q E hr h => ?_)
  · obtain ⟨v, n, es, c, l, h, rfl, _⟩ := h
    rfl
  · obtain ⟨v, n, es, c, l, h, rfl, hW, ok, hL, q⟩ := h
    refine ⟨_, (pss_cons (ps_set (i := 2) sc_folds_of.nd rfl (.inr rfl) (pcall (ok_reach_of T) (hr.mono (by decide)) (pa_cons (pv 0) (pa_cons pe_int pa_nil))))
    (pss_one (ps_ret (pe_join pe_str (pe_lc (own := [("one", 3), ("other", 4)]) (g := (gTup K 2 (gCons (gName 3) (gCons (gName 4) gNil)))) rfl sc_folds_of.nd (piTK K (pe_ix (ixTK K) (pv 0) pe_int (fun _ _ => rfl))) (blkOk_by (own := [("one", 3), ("other", 4)]) (N := N_folds_of) (sc := defScope s_folds_of) (by decide +kernel)) (fun _ _ _ _ _ => (pg_tup rfl (pgs_cons (pg_name (i := 3) sc_folds_of.nd rfl (Or.inl rfl)) (pgs_cons (pg_name (i := 4) sc_folds_of.nd rfl (Or.inl rfl)) pgs_nil)))) (fun _ _ _ _ _ => pts_nil) (fun _ _ _ _ _ => (pe_ifExp (pt_cmpR op_gt (pe_op op_mul (pe_op op_sub (pe_ix (ixTK K) (pv 1) (pv 4) (fun _ _ => rfl)) (pe_ix (ixTK K) (pv 1) (pv 3) (fun _ _ => rfl))) (pcall (ok_sign_of T) (hr.mono (by decide)) (pa_cons (pv 2) (pa_cons (pv 3) pa_nil)))) pe_int (nomark _)) pe_str pe_str))))))), ?_⟩
    obtain ⟨b, hT, hB⟩ := id hW
    refine q_asgG (eg_call (ea_cons (ev_var rfl) (ea_cons ev_c ea_nil)) (sp_reach_ok (first := 0) hW ok.form.edges ok.conn ok.form.lo)) (Ex.refl H) (fun even S1 H1 g1 ⟨d, hd, hD⟩ => ?_)
    have hpar := hD.par ok.col
    have hcomp : EvG (tLc (iTup K (tOp (rIxT K) (tVar 0) (tC (.int 1)))) (gTup K 2 (gCons (gName 3) (gCons (gName 4) gNil))) tYes (tIf (tTest (tOp (rI0 fun i j => .bl (decide (j < i))) (tOp (rI CMul fun i j => .int (i * j)) (tOp (rI0 fun i j => .int (i - j)) (tOp (rIxT K) (tVar 1) (tVar 4)) (tOp (rIxT K) (tVar 1) (tVar 3))) (tCall sp_sign_of [] E0 (tCons (tVar 2) (tCons (tVar 3) tNil)))) (tC (.int 0)))) (tC (.str ("M" : String))) (tC (.str ("V" : String)))) [3, 4]) [some v, some l, some even, none, none] S1 fun r S' => LstA S' r ((List.range es.length).map fun i => V.str (let1 (foldB c h (es.getD i (0, 0))))) := by
      refine lc_map (n := es.length) (fun i => V.str (let1 (foldB c h (es.getD i (0, 0))))) (turns_pairs (j := 3) (k := 4) (ev_ixT (j := 1) (ev_var rfl) ev_c (hT.mono g1.s) rfl) (hB.mono g1.s)) (fun i _ => set2_wipe _ _ _ _ _) (by have := ok.form.few; omega) (fun i S2 hi e2 => ?_)
      have hm := es_getD hi
      generalize es.getD i (0, 0) = e at hm
      have hok := ok.form.ok e hm
      have hL2 := (hL.mono g1.s).mono e2
      have p1 := hpar e.1 (by omega)
      have hs : sgn (d e.1) = sgn (c e.1 + c 0) := sgn_mod (by omega)
      refine ev_if (b := foldB c h e) (et_test (ev_bl (ev_op (x := .int ((h e.2 - h e.1) * sgn (d e.1))) (y := .int 0) (ev_op (ev_op (ev_ixT (j := e.2) (ev_var rfl) (ev_var rfl) hL2 (iV_get (tabI_get (by omega)))) (ev_ixT (j := e.1) (ev_var rfl) (ev_var rfl) hL2 (iV_get (tabI_get (by omega)))) rv_I0) (ev_call (ea_cons (ev_var rfl) (ea_cons (ev_var rfl) ea_nil)) fun H3 e3 Q3 q3 _ => ⟨even, tabN n d, e.1, d e.1, rfl, (hd.mono e2).mono e3, tabN_get (by omega), q3⟩) (rv_I (.inr ?_))) ev_c rv_I0) (by rw [hs]; rfl))) (fun hb => ?_) (fun hb => ?_)
      · rcases sgn_or (d e.1) with z | z <;> rw [z] <;> decide
      · rw [hb, let_M]; exact ev_c
      · rw [hb, let_V]; exact ev_c
    refine s_ret (v := .str (foldT (foldsL es c h))) (fun H2 e2 Q2 q2 => ⟨⟨_, rfl⟩, ?_⟩) (fun H2 e2 => q H2 (g1.ex.trans e2))
    refine hcomp H2 (g1.i.trans e2) _ fun r S3 H3 g3 ⟨a, er, ha⟩ => ?_
    have ee : (List.range es.length).map (fun i => V.str (let1 (foldB c h (es.getD i (0, 0))))) = ((foldsL es c h).map let1).map V.str := by
      unfold foldsL
      rw [List.map_map, List.map_map]
      apply List.ext_getElem?
      intro i
      rw [List.getElem?_map, List.getElem?_map]
      by_cases hi : i < es.length
      · rw [List.getElem?_range hi, List.getElem?_eq_getElem hi]
        show some (V.str (let1 (foldB c h (es.getD i (0, 0))))) = some (V.str (let1 (foldB c h es[i])))
        rw [List.getD_eq_getElem?_getD, List.getElem?_eq_getElem hi]; rfl
      · rw [List.getElem?_eq_none (by rw [List.length_range]; omega), List.getElem?_eq_none (by omega)]; rfl
    refine ⟨_, a, (foldsL es c h).map let1, rfl, by rw [er], .inl (sq_of (by rw [← ee]; exact g3.i _ _ ha)), ?_, ?_⟩
    · have h1 : (((foldsL es c h).map let1).map (·.length)).sum = es.length := by rw [lets_len]; exact List.length_map _
      rw [h1, show (("" : String) : Str).length = 0 from by decide +kernel, Nat.mul_zero]
      have := ok.form.few
      omega
    · rw [join_lets]; exact q2 H3 g3.ex
def sp_folds : Sp := fun vs H Q _ => ∃ (v : V) (n : Nat) (es : List (Nat × Nat)) (c : Nat → Nat) (l : V) (h : Nat → Int), vs = [v, l] ∧ WebV H v n es ∧ WebOk n es c ∧ LayV H l n h ∧ LayOk n es h ∧ RetV (.str (foldT (foldsL es c h))) H Q
theorem sp_folds_ok {S : Hp} {v l : V} {n : Nat} {es : List (Nat × Nat)} {c : Nat → Nat} {h : Nat → Int} (hW : WebV S v n es) (ok : WebOk n es c) (hL : LayV S l n h) (lo : LayOk n es h) : SpV sp_folds ([v, l] ++ []) S (.str (foldT (foldsL es c h))) := fun H e Q q _ => ⟨v, n, es, c, l, h, rfl, hW.mono e, ok, hL.mono e, lo, q⟩
theorem ok_folds (T : Tx K mg) : OkD P w K mg base 7 "folds" ["web", "laying"] sp_folds := by
  refine mk_folds T (fun vs H Q E h => ?_) (fun f cdv A outer s H vs Q E hr h => ?_)
  · obtain ⟨v, n, es, c, l, h, rfl, _⟩ := h
    rfl
  · obtain ⟨v, n, es, c, l, h, rfl, hW, ok, hL, lo, q⟩ := h
    refine ⟨_, (pss_cons (ps_expr (pcall (ok_need_one T) (hr.mono (by decide)) (pa_cons (pv 0) (pa_cons (pv 1) pa_nil))))
    (pss_one (ps_ret (pcall (ok_folds_of T) (hr.mono (by decide)) (pa_cons (pv 0) (pa_cons (pv 1) pa_nil)))))), ?_⟩
    refine q_drop (ev_call (ea_cons (ev_var rfl) (ea_cons (ev_var rfl) ea_nil)) (sp_one_ok hW ok hL lo)) (fun H1 e1 => ?_)
    exact s_ret (ev_call (ea_cons (ev_var rfl) (ea_cons (ev_var rfl) ea_nil)) (sp_folds_of_ok (hW.mono e1) ok (hL.mono e1))) (fun H2 e2 => q H2 (e1.trans e2))
end
end Tr
end
section
set_option Elab.async false
set_option linter.all false
set_option maxRecDepth 100000
set_option maxHeartbeats 4000000
namespace Tr
open PySem PySem.Spec PyProof.Rows L2 Evl
section
variable {K : PySem.W.Frag} {σ : L2.St} {S H : Hp} {ta te : TE}
/-- tuple(a list that is made) -/
theorem eg_tupOf {xs : List V} (h : EvG te σ S fun v S' => LstA S' v xs) : EvG (tCB (rTupOf K) (tCons te tNil)) σ S fun v S' => TupA S' v xs := fun H e Q q =>
  h H e _ fun v S1 H1 g ⟨a, ev, ha⟩ => ⟨a, xs, by rw [ev], .inl ⟨ex_l g.i (sq_of ha), fun l hl => q (.ref l) (upd S1 l (.tup xs)) _ (g.trans (Gr.new g.i hl)) ⟨l, rfl, upd_same⟩⟩⟩
theorem eg_if {b : Bool} {t : TT} {tb : TE} {P : V → Hp → Prop} (h : EvT t σ S b) (h1 : b = true → EvG ta σ S P) (h2 : b = false → EvG tb σ S P) : EvG (tIf t ta tb) σ S P := fun H e Q q => h H e _ fun H1 e1 => by
  cases b with
  | true =>
    show ta σ H1 Q
    exact h1 rfl H1 (e.trans e1) Q fun v S2 H2 g p => q v S2 H2 ((Gr.of_ex e e1).trans g) p
  | false =>
    show tb σ H1 Q
    exact h2 rfl H1 (e.trans e1) Q fun v S2 H2 g p => q v S2 H2 ((Gr.of_ex e e1).trans g) p
theorem turns_lay {l : V} {n j : Nat} {h : Nat → Int} (hl : Ev te σ S l) (hL : LayV S l n h) : Turns (iTup K te) (gName j) σ S n fun i σ' => σ'.set j (some (.int (h i))) := by
  obtain ⟨a, rfl, ha⟩ := hL
  have := turns_tup (K := K) (σ := σ) (S := S) (a := a) (xs := iV (tabI n h)) (tl := te) (g := gName j) (u := fun i σ' => σ'.set j (some (.int (h i)))) hl (st_of ha) (fun i x H σ' Q hx e q => by
    have hi : i < n := by
      obtain ⟨q, _⟩ := List.getElem?_eq_some_iff.mp hx
      rw [iV_len, tabI_len] at q; exact q
    rw [iV_get (tabI_get hi)] at hx
    cases hx
    exact q H (Ex.refl _))
  rw [iV_len, tabI_len] at this
  exact this
end
section
variable {P : Program} {w : World} {K : PySem.W.Frag} {mg : Str → Option Value} {base : Heap}
def sp_moved : Sp := fun vs H Q _ => ∃ (S : Hp) (v : V) (n : Nat) (es : List (Nat × Nat)) (c : Nat → Nat) (l : V) (h : Nat → Int) (by_ : Int), vs = [v, l, .int by_] ∧ Ex S H ∧ WebV S v n es ∧ WebOk n es c ∧ LayV S l n h ∧ LayOk n es h ∧ -2000000 ≤ by_ ∧ by_ ≤ 2000000 ∧ LayOk n es (fun i => h i + by_) ∧
  RetG S H (fun r S' => LayV S' r n (fun i => h i + by_)) Q
theorem ok_moved (T : Tx K mg) : OkD P w K mg base 7 "moved" ["web", "laying", "by"] sp_moved := by
  refine mk_moved T (fun vs H Q E h => ?_) (fun f cdv A outer s H vs Q E hr h => ?_)
  · obtain ⟨S, v, n, es, c, l, h, b, rfl, _⟩ := h
    rfl
  · obtain ⟨S, v, n, es, c, l, h, b, rfl, eH, hW, ok, hL, lo, b1, b2, lo2, q⟩ := h
    obtain ⟨tM, hMH⟩ := T.int "MOST_HEIGHT" 1000000 (List.mem_of_getElem? (i := 1) rfl)
    refine ⟨_, (pss_cons (ps_expr (pcall (ok_need_one T) (hr.mono (by decide)) (pa_cons (pv 0) (pa_cons (pv 1) pa_nil))))
    (pss_cons (ps_if (pt_not (pt_val (pcall (ok_is_in T) (hr.mono (by decide)) (pa_cons (pv 2) (pa_cons (pe_op op_mul (pe_un un_neg pe_int) (pe_glob (v := .int 1000000) (by rfl) hMH ⟨_, rfl⟩)) (pa_cons (pe_op op_mul pe_int (pe_glob (v := .int 1000000) (by rfl) hMH ⟨_, rfl⟩)) pa_nil))))))
      (pss_one ps_never)
      pss_nil)
    (pss_cons (ps_set (i := 3) sc_moved.nd rfl (.inl rfl) (pe_callTy (tupOfK K) (by rfl) T.b_tuple (by decide +kernel) (pa_cons (pe_lc (own := [("height", 4)]) (g := (gName 4)) rfl sc_moved.nd (piTK K (pv 1)) (blkOk_by (own := [("height", 4)]) (N := N_moved) (sc := defScope s_moved) (by decide +kernel)) (fun _ _ _ _ _ => (pg_name (i := 4) sc_moved.nd rfl (Or.inl rfl))) (fun _ _ _ _ _ => pts_nil) (fun _ _ _ _ _ => (pe_op op_add (pv 4) (pv 2)))) pa_nil)))
    (pss_cons (ps_if (pt_not (pt_val (pcall (ok_is_laying_of T) (hr.mono (by decide)) (pa_cons (pv 0) (pa_cons (pv 3) pa_nil)))))
      (pss_one ps_never)
      pss_nil)
    (pss_one (ps_ret (pv 3))))))), ?_⟩
    refine q_drop (ev_call (ea_cons (ev_var rfl) (ea_cons (ev_var rfl) ea_nil)) (sp_one_ok (hW.mono eH) ok (hL.mono eH) lo)) (fun H1 e1 => ?_)
    refine q_when (b := !true) (et_not (et_B (ev_call (ea_cons (ev_var rfl) (ea_cons (ev_op (ev_un ev_c ru_neg) ev_c (rv_I (.inl (by decide)))) (ea_cons (ev_op ev_c ev_c (rv_I (.inl (by decide)))) ea_nil))) (sp_is_in_ok (by simp; omega))))) (fun hb => absurd hb (by decide)) (fun _ H2 e2 => ?_)
    have g2 : Gr [] S H S H2 := (Gr.of_ex eH e1).trans (Gr.of_ex (eH.trans e1) e2)
    refine q_asgG (P := fun r S' => LayV S' r n (fun i => h i + b)) ?_ g2.i (fun r S3 H3 g3 hr3 => ?_)
    · refine EvG.imp (eg_tupOf (lc_map (n := n) (fun i => V.int (h i + b)) (turns_lay (ev_var rfl) hL) (fun i _ => set1_wipe _ _ _) (by have := ok.form.hi; omega) (fun i S1 hi e => ev_op (ev_var rfl) (ev_var rfl) rv_I0))) fun r S' _ hr => ?_
      unfold LayV
      rw [iV_tab]; exact hr
    have g23 := g2.trans g3
    refine q_when (b := !true) (et_not (et_B (ev_call (ea_cons (ev_var rfl) (ea_cons (ev_var rfl) ea_nil)) (sp_is_laying_ok ((hW.mono g23.s).mono g23.i) ok.form.edges (hr3.mono g3.i) lo2)))) (fun hb => absurd hb (by decide)) (fun _ H4 e4 => ?_)
    exact s_ret (v := r) (ev_var rfl) (fun H5 e5 => q r S3 H5 (g23.trans (Gr.of_ex g23.i (e4.trans e5))) hr3)
end
end Tr
end
section
set_option Elab.async false
set_option linter.all false
set_option maxRecDepth 100000
set_option maxHeartbeats 4000000
namespace Tr
open PySem PySem.Spec PyProof.Rows L2 Evl
def difS (n : Nat) (h g : Nat → Int) : List Int := (List.range n).map fun i => h i - g i
section
variable {K : PySem.W.Frag} {σ : L2.St} {S H : Hp} {ta te tl : TE} {g : TG} {u : Nat → L2.St → L2.St}
theorem eg_sorted {ns : List Int} (h : EvG te σ S fun v S' => LstA S' v (iV ns)) (hl : ns.length < 64) : EvG (tCB (rSorted K) (tCons te tNil)) σ S fun v S' => ∃ L : List Int, LstA S' v (iV L) ∧ L.Perm ns ∧ L.Pairwise (· ≤ ·) := fun H e Q q =>
  h H e _ fun v S1 H1 g ⟨a, ev, ha⟩ => ⟨a, ns, by rw [ev], ex_l g.i (sq_of ha), hl, fun L p hp hs hn => q (.ref p) (upd S1 p (.lst (iV L))) _ (g.trans (Gr.new g.i hn)) ⟨L, ⟨p, rfl, upd_same⟩, hp, hs⟩⟩
/-- over a tuple that is made on the spot -/
theorem turns_newT {P : V → Hp → Prop} {m : Nat} (h : EvG tl σ S P) (hx : ∀ v S1, Ex S S1 → P v S1 → ∃ a xs, v = .ref a ∧ SqT K S1 a xs ∧ xs.length = m ∧ ∀ i x (H : Hp) (σ' : L2.St) (Q : L2.St → Hp → Prop), xs[i]? = some x → Ex S1 H → (∀ H3, Ex H H3 → Q (u i σ') H3) → g x σ' H Q) : Turns (iTup K tl) g σ S m u := fun H e R r =>
  h H e _ fun v S1 H1 gr p => by
    obtain ⟨a, xs, rfl, hq, hm, hu⟩ := hx v S1 gr.s p
    subst hm
    exact ⟨a, rfl, ⟨xs, ex_t gr.i hq⟩, r (Itt K a) (fun H' => SqT K H' a xs ∧ Ex S1 H') S1 H1 gr (fun H' q => ⟨ex_t q hq, q⟩) (fun i H' hi q => walk_tup.goes i H' hi q.1) (fun H' q => walk_tup.stops H' q.1)
      fun i H' x H'' σ' Q hi q y k => by
        obtain ⟨e2, e3⟩ := walk_tup.yields i H' x H'' hi q.1 y
        subst e2
        exact hu i x H'' σ' Q e3 q.2 k⟩
theorem fdiv2 (k : Nat) : (k : Int).fdiv 2 = ((k / 2 : Nat) : Int) := by
  rw [Int.fdiv_eq_ediv_of_nonneg _ (by decide)]; omega
theorem lexLt2 {a b x y : Int} : HT.lexLt [a, b] [x, y] = (if a = x then decide (b < y) else decide (a < x)) := by
  unfold HT.lexLt
  split
  · rename_i h
    unfold HT.lexLt
    split
    · rename_i h2
      unfold HT.lexLt
      exact (decide_eq_false (by omega)).symm
    · rfl
  · rfl
end
section
variable {P : Program} {w : World} {K : PySem.W.Frag} {mg : Str → Option Value} {base : Heap}
def BestR (S : Hp) (r : V) (n : Nat) (h g : Nat → Int) : Prop := ∃ t, IsMed n (fun i => h i - g i) t ∧ TupA S r [.int ((sumS (difS n h g) t).fdiv 2), .int t]
def sp_best : Sp := fun vs H Q _ => ∃ (S : Hp) (l m : V) (n : Nat) (h g : Nat → Int), vs = [l, m] ∧ Ex S H ∧ 1 ≤ n ∧ n ≤ 60 ∧ LayV S l n h ∧ LayV S m n g ∧ RetG S H (fun r S' => BestR S' r n h g) Q
theorem ok_best_shift_of (T : Tx K mg) : OkD P w K mg base 1 "best_shift_of" ["one", "other"] sp_best := by
  refine mk_best_shift_of T (fun vs H Q E h => ?_) (fun f cdv A outer s H vs Q E hr h => ?_)
  · obtain ⟨S, l, m, n, h, g, rfl, _⟩ := h
    rfl
  · obtain ⟨S, l, m, n, h, g, rfl, eH, n1, n60, hL, hM, q⟩ := h
    refine ⟨_, (pss_cons (ps_set (i := 2) sc_best_shift_of.nd rfl (.inl rfl) pe_non)
    (pss_cons (ps_set (i := 3) sc_best_shift_of.nd rfl (.inl rfl) (pe_callB (sortedK K) (by rfl) T.b_sorted (by decide +kernel) (pa_cons (pe_lc (own := [("left", 6), ("right", 7)]) (g := (gTup K 2 (gCons (gName 6) (gCons (gName 7) gNil)))) rfl sc_best_shift_of.nd (RZ.pi_zipA (by rfl) T.b_zip (pa_cons (pv 0) (pa_cons (pv 1) pa_nil))) (blkOk_by (own := [("left", 6), ("right", 7)]) (N := N_best_shift_of) (sc := defScope s_best_shift_of) (by decide +kernel)) (fun _ _ _ _ _ => (pg_tup rfl (pgs_cons (pg_name (i := 6) sc_best_shift_of.nd rfl (Or.inl rfl)) (pgs_cons (pg_name (i := 7) sc_best_shift_of.nd rfl (Or.inl rfl)) pgs_nil)))) (fun _ _ _ _ _ => pts_nil) (fun _ _ _ _ _ => (pe_op op_sub (pv 6) (pv 7)))) pa_nil)))
    (pss_cons (ps_for PassesOwn.never rfl (piTK K (pe_tup (pa_cons (pe_ix (ixLK K) (pv 3) (pe_op op_fdivN (pe_op op_sub (pe_callB (lenK K) (by rfl) T.b_len (by decide +kernel) (pa_cons (pv 3) pa_nil)) pe_int) pe_int) (fun _ _ => rfl)) (pa_cons (pe_ix (ixLK K) (pv 3) (pe_op op_fdivN (pe_callB (lenK K) (by rfl) T.b_len (by decide +kernel) (pa_cons (pv 3) pa_nil)) pe_int) (fun _ _ => rfl)) pa_nil)))) (pg_name (i := 4) sc_best_shift_of.nd rfl (Or.inr rfl))
      (pss_cons (ps_set (i := 5) sc_best_shift_of.nd rfl (.inl rfl) (pe_tup (pa_cons (pe_op op_fdivN (pe_callB (sumK K) (by rfl) T.b_sum (by decide +kernel) (pa_cons (pe_lc (own := [("many", 8)]) (g := (gName 8)) rfl sc_best_shift_of.nd (piLK K (pv 3)) (blkOk_by (own := [("many", 8)]) (N := N_best_shift_of) (sc := defScope s_best_shift_of) (by decide +kernel)) (fun _ _ _ _ _ => (pg_name (i := 8) sc_best_shift_of.nd rfl (Or.inl rfl))) (fun _ _ _ _ _ => pts_nil) (fun _ _ _ _ _ => (pe_callB call_abs (by rfl) T.b_abs (by decide +kernel) (pa_cons (pe_op op_sub (pv 8) (pv 4)) pa_nil)))) pa_nil)) pe_int) (pa_cons (pv 4) pa_nil))))
    (pss_one (ps_set (i := 2) sc_best_shift_of.nd rfl (.inl rfl) (pe_ifExp (PW.pt (pw_or (pt_cmpR op_isN (pv 2) pe_non (nomark _)) (pw_or1 (pt_cmpR (ltTK K hr.units0) (pv 5) (pv 2) (nomark _))))) (pv 5) (pv 2))))))
    (pss_one (ps_ret (pv 2)))))), ?_⟩
    refine q_asg (v := .non) ev_c (fun H1 e1 => ?_)
    refine q_asgG (S := S) (P := fun r S' => ∃ L : List Int, LstA S' r (iV L) ∧ L.Perm (difS n h g) ∧ L.Pairwise (· ≤ ·)) ?_ (eH.trans e1) (fun told S2 H2 g2 ⟨L, hT, hperm, hsort⟩ => ?_)
    · refine eg_sorted (EvG.imp (lc_map (n := n) (fun i => V.int (h i - g i)) (turns_zipII (ev_var rfl) (ev_var rfl) hL hM) (fun i _ => set2_wipe _ _ _ _ _) (by omega) (fun i S1 hi e => ev_op (ev_var rfl) (ev_var rfl) rv_I0)) fun v S' _ hv => ?_) (by unfold difS; rw [List.length_map, List.length_range]; omega)
      unfold iV difS
      rw [List.map_map]; exact hv
    have g02 := (Gr.of_ex eH e1).trans g2
    obtain ⟨md, Md, k1, k2, hmed, hle, heq⟩ := med_of n1 hperm hsort
    have hlen : L.length = n := by rw [hperm.length_eq]; unfold difS; rw [List.length_map, List.length_range]
    have hlv : (iV L).length = n := by rw [iV_len]; exact hlen
    have ev1 : Ev (tOp (rIxL K) (tVar 3) (tOp (rI CDivN fun i j => .int (i.fdiv j)) (tOp (rI0 fun i j => .int (i - j)) (tCB (rLenQ K) (tCons (tVar 3) tNil)) (tC (.int 1))) (tC (.int 2)))) [some l, some m, some .non, some told, none, none, none, none, none] S2 (.int md) :=
      ev_ixL (j := (n - 1) / 2) (ev_var rfl) (ev_is (ev_op (x := .int ((n - 1 : Nat) : Int)) (y := .int 2) (ev_is (ev_op (ev_lenL (ev_var rfl) hT) ev_c rv_I0) (by rw [hlv]; congr 1; omega)) ev_c (rv_I ⟨by decide, by decide⟩)) (by rw [fdiv2])) hT (iV_get k1)
    have ev2 : Ev (tOp (rIxL K) (tVar 3) (tOp (rI CDivN fun i j => .int (i.fdiv j)) (tCB (rLenQ K) (tCons (tVar 3) tNil)) (tC (.int 2)))) [some l, some m, some .non, some told, none, none, none, none, none] S2 (.int Md) :=
      ev_ixL (j := n / 2) (ev_var rfl) (ev_is (ev_op (x := .int (n : Int)) (y := .int 2) (ev_is (ev_lenL (ev_var rfl) hT) (by rw [hlv])) ev_c (rv_I ⟨by decide, by decide⟩)) (by rw [fdiv2])) hT (iV_get k2)
    have cost : ∀ t, sumS L t = sumS (difS n h g) t := fun t => sumS_perm hperm t
    show tSeq (tFor _ _ _) _ _ [some l, some m, some .non, some told, none, none, none, none, none] H2
    refine for_turns (n := 2) (S := S2) (u := fun i σ' => σ'.set 4 (some (([.int md, .int Md] : List V).getD i .non))) (turns_newT (P := fun v S' => TupA S' v [.int md, .int Md]) (EvG.ofU (eu_tup (ea_cons ev1 (ea_cons ev2 ea_nil)) (by show 2 ≤ 100000; decide)) fun p S' _ hp => ⟨p, rfl, hp⟩) (fun v S1 e ⟨a, hv, ha⟩ => ⟨a, _, hv, st_of ha, rfl, tab_turn (K := K)⟩) _ g02.i)
      (fun S1 i σ' H' => ∃ y2 y4 y5, σ' = [some l, some m, y2, some told, y4, y5, none, none, none] ∧ Gr [] S H S1 H' ∧ LstA S1 told (iV L) ∧ (i = 0 → y2 = some .non) ∧ (1 ≤ i → ∃ a, y2 = some (.ref a) ∧ H a = none ∧ H' a = some (.tup [.int ((sumS (difS n h g) md).fdiv 2), .int md])))
      (fun S1 H3 g3 => ⟨some .non, none, none, rfl, g02.trans g3, hT.mono g3.s, fun _ => rfl, fun z => absurd z (by omega)⟩) (fun S1 i σ' H' ⟨_, _, _, _, gg, _⟩ => gg.i) ?_ ?_
    · rintro S1 i σ' H' hi ⟨y2, y4, y5, rfl, gg, hT1, hz0, hz1⟩ H3 e3
      have gg3 := gg.trans (Gr.of_ex gg.i e3)
      have sx : ∃ t : Int, ([.int md, .int Md] : List V).getD i .non = .int t ∧ sumS L t = sumS L md ∧ (i = 0 → t = md) ∧ md ≤ t := by
        match i, hi with
        | 0, _ => exact ⟨md, rfl, rfl, fun _ => rfl, Int.le_refl _⟩
        | 1, _ => exact ⟨Md, rfl, heq.symm, fun z => absurd z (by omega), hle⟩
      obtain ⟨t, et, hts, ht0, htm⟩ := sx
      rw [et]
      show tSeq (tAsg _ _) _ _ [some l, some m, y2, some told, some (.int t), y5, none, none, none] H3
      have hsum : Ev (tCB (rSum K) (tCons (tLc (iList K (tVar 3)) (gName 8) tYes (tCB rAbs (tCons (tOp (rI0 fun i j => .int (i - j)) (tVar 8) (tVar 4)) tNil)) [8]) tNil)) [some l, some m, y2, some told, some (.int t), y5, none, none, none] H3 (.int (sumS L t)) := by
        obtain ⟨at_, eat, hat⟩ := (hT1.mono gg3.i)
        have tl := turns_list (K := K) (σ := [some l, some m, y2, some told, some (.int t), y5, none, none, none]) (S := H3) (a := at_) (xs := iV L) (tl := tVar 3) (g := gName 8) (u := fun i σ' => σ'.set 8 (some ((iV L).getD i .non))) (by rw [← eat]; exact ev_var rfl) (sq_of hat) (tab_turn (K := K))
        rw [hlv] at tl
        refine ev_sum (EvG.imp (lc_map (n := n) (fun i => V.int (absI (L.getD i 0 - t))) tl (fun i _ => set1_wipe _ _ _) (by omega) (fun i S3 hi e => ?_)) fun v S' _ hv => ⟨(List.range n).map fun i => absI (L.getD i 0 - t), by unfold iV; rw [List.map_map]; exact hv, ?_⟩)
        · have hLi : L[i]? = some (L.getD i 0) := by rw [List.getD_eq_getElem?_getD, List.getElem?_eq_getElem (by omega)]; rfl
          refine ev_abs (ev_op (x := .int (L.getD i 0)) (y := .int t) (ev_var ?_) (ev_var rfl) rv_I0)
          rw [getD_of (iV_get hLi)]; rfl
        · unfold sumS
          congr 1
          apply List.ext_getElem?
          intro i
          rw [List.getElem?_map, List.getElem?_map]
          by_cases hi : i < n
          · rw [List.getElem?_range hi, List.getElem?_eq_getElem (by omega)]
            show some (absI (L.getD i 0 - t)) = some (absI (L[i]'(by omega) - t))
            rw [List.getD_eq_getElem?_getD, List.getElem?_eq_getElem (by omega)]; rfl
          · rw [List.getElem?_eq_none (by rw [List.length_range]; omega), List.getElem?_eq_none (by omega)]; rfl
      refine q_asgU (xs := [.int ((sumS (difS n h g) md).fdiv 2), .int t]) (eu_tup (ea_cons (ev_is (ev_op (x := .int (sumS L t)) (y := .int 2) hsum ev_c (rv_I ⟨by decide, by decide⟩)) (by rw [hts, cost])) (ea_cons (ev_var rfl) ea_nil)) (by show 2 ≤ 100000; decide)) (fun k H4 hk e4 hk4 => ?_)
      have gg4 := gg3.trans (Gr.of_ex gg3.i e4)
      have hHk : H k = none := gg3.fr eH hk
      show tAsg _ _ _ [some l, some m, y2, some told, some (.int t), some (.ref k), none, none, none] H4
      by_cases h0 : i = 0
      · rw [hz0 h0]
        have etm := ht0 h0
        subst etm
        refine s_asg (v := .ref k) (ev_if (b := decide (V.non = V.non) || true) (et_or (et_test (ev_op (ev_var rfl) ev_c (fun H1 _ Q q => ⟨rfl, q H1 (Ex.refl H1)⟩))) (fun z => absurd z (by decide))) (fun _ => ev_var rfl) (fun z => absurd z (by decide))) (fun H5 e5 => ?_)
        exact ⟨_, _, _, rfl, gg4.trans (Gr.of_ex gg4.i e5), hT1, fun z => absurd z (by omega), fun _ => ⟨k, rfl, hHk, e5 _ _ hk4⟩⟩
      · obtain ⟨a, ey2, hHa, ha⟩ := hz1 (by omega)
        subst ey2
        have ha4 := e4 _ _ (e3 _ _ ha)
        refine s_asg (v := .ref a) (ev_if (b := decide (V.ref a = V.non) || false) (et_or (et_test (ev_op (ev_var rfl) ev_c (fun H1 _ Q q => ⟨rfl, q H1 (Ex.refl H1)⟩))) (fun _ => et_test (ev_op (x := .ref k) (y := .ref a) (ev_var rfl) (ev_var rfl) (fun H1 e1 Q q => ⟨k, a, [(sumS (difS n h g) md).fdiv 2, t], [(sumS (difS n h g) md).fdiv 2, md], rfl, rfl, st_of (e1 _ _ hk4), st_of (e1 _ _ ha4), by
            rw [lexLt2, if_pos rfl, decide_eq_false (by omega)]; exact q H1 (Ex.refl H1)⟩)))) (fun z => ?_) (fun _ => ev_var rfl)) (fun H5 e5 => ?_)
        · simp at z
        · exact ⟨_, _, _, rfl, gg4.trans (Gr.of_ex gg4.i e5), hT1, fun z => absurd z (by omega), fun _ => ⟨a, rfl, hHa, e5 _ _ ha4⟩⟩
    · rintro S1 σ' H' ⟨y2, y4, y5, rfl, gg, hT1, _, hz1⟩
      obtain ⟨a, ey2, hHa, ha⟩ := hz1 (by omega)
      subst ey2
      show tRet (tVar 2) _ [some l, some m, some (.ref a), some told, y4, y5, none, none, none] H'
      refine s_ret (v := .ref a) (ev_var rfl) (fun H3 e3 => ?_)
      have gg3 := gg.trans (Gr.of_ex gg.i e3)
      exact q _ _ H3 (gg3.fix hHa (e3 _ _ ha)) ⟨md, hmed, a, rfl, upd_same⟩
theorem ev_ixTG' {K : PySem.W.Frag} {σ : L2.St} {S : Hp} {ta tb : TE} {P : V → Hp → Prop} {R : V → Prop} {j : Nat} (ha : EvG ta σ S P) (hb : ∀ S1, Ex S S1 → Ev tb σ S1 (.int (j : Int))) (h : ∀ x S1, Ex S S1 → P x S1 → ∃ xs v, TupA S1 x xs ∧ xs[j]? = some v ∧ R v) : EvG (tOp (rIxT K) ta tb) σ S fun v _ => R v := fun H e Q q =>
  ha H e _ fun x S1 H1 g p => by
    obtain ⟨xs, v, ⟨a, rfl, hx⟩, hj, hv⟩ := h x S1 g.s p
    exact hb S1 g.s H1 g.i _ fun H2 e2 => ⟨a, xs, _, v, rfl, rfl, ex_t (g.i.trans e2) (st_of hx), atI_of hj, q v S1 H2 (g.trans (Gr.of_ex g.i e2)) hv⟩
theorem sp_best_ok {S : Hp} {l m : V} {n : Nat} {h g : Nat → Int} (n1 : 1 ≤ n) (hn : n ≤ 60) (hL : LayV S l n h) (hM : LayV S m n g) : SpG sp_best ([l, m] ++ []) S fun r S' => BestR S' r n h g := fun H e Q E q => ⟨S, l, m, n, h, g, rfl, e, n1, hn, hL, hM, q⟩
/-- shift_distance, best_shift: the item j of the pair -/
def sp_shift (R : Int → Int → Int) : Sp := fun vs H Q _ => ∃ (v : V) (n : Nat) (es : List (Nat × Nat)) (c : Nat → Nat) (l m : V) (h g : Nat → Int), vs = [v, l, m] ∧ WebV H v n es ∧ WebOk n es c ∧ LayV H l n h ∧ LayOk n es h ∧ LayV H m n g ∧ LayOk n es g ∧ (h 0 - g 0) % 2 = 0 ∧
  ∀ t, IsMed n (fun i => h i - g i) t → RetV (.int (R ((sumS (difS n h g) t).fdiv 2) t)) H Q
theorem sp_shift_ok {R : Int → Int → Int} {S : Hp} {v l m : V} {n : Nat} {es : List (Nat × Nat)} {c : Nat → Nat} {h g : Nat → Int} {t : Int} (hW : WebV S v n es) (ok : WebOk n es c) (hL : LayV S l n h) (lo : LayOk n es h) (hM : LayV S m n g) (mo : LayOk n es g) (hp : (h 0 - g 0) % 2 = 0) (ht : IsMed n (fun i => h i - g i) t) : SpV (sp_shift R) ([v, l, m] ++ []) S (.int (R ((sumS (difS n h g) t).fdiv 2) t)) :=
  fun H e Q q _ => ⟨v, n, es, c, l, m, h, g, rfl, hW.mono e, ok, hL.mono e, lo, hM.mono e, mo, hp, fun t' ht' => by rw [ht'.uniq ht]; exact q⟩
theorem ok_shift_distance (T : Tx K mg) : OkD P w K mg base 8 "shift_distance" ["web", "one", "other"] (sp_shift fun a _ => a) := by
  refine mk_shift_distance T (fun vs H Q E h => ?_) (fun f cdv A outer s H vs Q E hr h => ?_)
  · obtain ⟨v, n, es, c, l, m, h, g, rfl, _⟩ := h
    rfl
  · obtain ⟨v, n, es, c, l, m, h, g, rfl, hW, ok, hL, lo, hM, mo, hp, q⟩ := h
    refine ⟨_, (pss_cons (ps_expr (pcall (ok_need_two T) (hr.mono (by decide)) (pa_cons (pv 0) (pa_cons (pv 1) (pa_cons (pv 2) pa_nil)))))
    (pss_one (ps_ret (pe_ix (ixTK K) (pcall (ok_best_shift_of T) (hr.mono (by decide)) (pa_cons (pv 1) (pa_cons (pv 2) pa_nil))) pe_int (fun _ _ => rfl))))), ?_⟩
    refine q_drop (ev_call (ea_cons (ev_var rfl) (ea_cons (ev_var rfl) (ea_cons (ev_var rfl) ea_nil))) (sp_two_ok hW ok hL lo hM mo hp)) (fun H1 e1 => ?_)
    refine s_retG (S := H1) (P := fun r _ => ∃ t, IsMed n (fun i => h i - g i) t ∧ r = .int ((sumS (difS n h g) t).fdiv 2)) (ev_ixTG' (R := fun r => ∃ t, IsMed n (fun i => h i - g i) t ∧ r = .int ((sumS (difS n h g) t).fdiv 2)) (j := 0) (eg_call (ea_cons (ev_var rfl) (ea_cons (ev_var rfl) ea_nil)) (sp_best_ok ok.form.lo ok.form.hi (hL.mono e1) (hM.mono e1))) (fun S1 _ => ev_c) (fun x S1 _ ⟨t, ht, hx⟩ => ⟨_, _, hx, rfl, t, ht, rfl⟩)) (Ex.refl H1) (fun r S2 H2 g2 ⟨t, ht, er⟩ => ?_)
    rw [er]; exact q t ht H2 (e1.trans g2.ex)
theorem ok_best_shift (T : Tx K mg) : OkD P w K mg base 8 "best_shift" ["web", "one", "other"] (sp_shift fun _ b => b) := by
  refine mk_best_shift T (fun vs H Q E h => ?_) (fun f cdv A outer s H vs Q E hr h => ?_)
  · obtain ⟨v, n, es, c, l, m, h, g, rfl, _⟩ := h
    rfl
  · obtain ⟨v, n, es, c, l, m, h, g, rfl, hW, ok, hL, lo, hM, mo, hp, q⟩ := h
    refine ⟨_, (pss_cons (ps_expr (pcall (ok_need_two T) (hr.mono (by decide)) (pa_cons (pv 0) (pa_cons (pv 1) (pa_cons (pv 2) pa_nil)))))
    (pss_one (ps_ret (pe_ix (ixTK K) (pcall (ok_best_shift_of T) (hr.mono (by decide)) (pa_cons (pv 1) (pa_cons (pv 2) pa_nil))) pe_int (fun _ _ => rfl))))), ?_⟩
    refine q_drop (ev_call (ea_cons (ev_var rfl) (ea_cons (ev_var rfl) (ea_cons (ev_var rfl) ea_nil))) (sp_two_ok hW ok hL lo hM mo hp)) (fun H1 e1 => ?_)
    refine s_retG (S := H1) (P := fun r _ => ∃ t, IsMed n (fun i => h i - g i) t ∧ r = .int t) (ev_ixTG' (R := fun r => ∃ t, IsMed n (fun i => h i - g i) t ∧ r = .int t) (j := 1) (eg_call (ea_cons (ev_var rfl) (ea_cons (ev_var rfl) ea_nil)) (sp_best_ok ok.form.lo ok.form.hi (hL.mono e1) (hM.mono e1))) (fun S1 _ => ev_c) (fun x S1 _ ⟨t, ht, hx⟩ => ⟨_, _, hx, rfl, t, ht, rfl⟩)) (Ex.refl H1) (fun r S2 H2 g2 ⟨t, ht, er⟩ => ?_)
    rw [er]; exact q t ht H2 (e1.trans g2.ex)
end
end Tr
end
section
set_option Elab.async false
set_option linter.all false
set_option maxRecDepth 100000
set_option maxHeartbeats 4000000
/-! zip of a tuple and a text. -/
namespace Tr
open PySem PySem.Spec PyProof.Rows L2 Evl
def ItzS (K : PySem.W.Frag) (a : Addr) (z : Str) : It :=
  ⟨fun i H => ∃ xs : List V, SqT K H a xs ∧ i < xs.length ∧ i < z.cps.size,
    fun i H v H' => ∃ T x c, v = .ref T ∧ H T = none ∧ H' = upd H T (.tup [x, .str ⟨#[c]⟩]) ∧ (∀ xs, SqT K H a xs → xs[i]? = some x) ∧ z.cps[i]? = some c,
    fun i H => ∃ xs : List V, SqT K H a xs ∧ i = xs.length ∧ i = z.cps.size⟩
theorem turn_zipTS {P : Program} {w : World} {K : PySem.W.Frag} {elts : List Expr} {kk : Nat} {tpos : Pos} {a z TI TO i1 i2 : Addr} {x : Str} {t : Tok} (D : ZipSep2 z TI TO i1 i2 [i1, a] [i2]) (hne : a ≠ i1) (haz : a ≠ z) (haT : a ≠ TO) (ha2 : a ≠ i2) :
    Turn P w K (.Tuple elts kk tpos) (ItzS K a x) [z, TI, TO, i1, i2] z (fun i h => IsZip h z TI TO .none ∧ IsTupOf2 h TI (.ref i1) (.ref i2) ∧ (∃ x y, IsTupOf2 h TO x y) ∧ h.IsTupleIter i1 a i ∧ h.IsStrIter i2 (strIterType x) x t i) where
  mem := by simp
  obj := fun i h st c hc => by
    obtain ⟨hz, hTI, ⟨x, y, hTO⟩, ⟨o1, e1, _, d1⟩, ⟨o2, e2, _, d2⟩⟩ := st
    have e' : c = z ∨ c = TI ∨ c = TO ∨ c = i1 ∨ c = i2 := by simpa using hc
    rcases e' with q | q | q | q | q
    · rw [q]; exact ⟨_, hz, fun v q => nomatch q⟩
    · rw [q]; exact ⟨_, hTI, fun v q => nomatch q⟩
    · rw [q]; exact ⟨_, hTO, fun v q => nomatch q⟩
    · rw [q]; exact ⟨o1, e1, fun v q => by rw [d1] at q; cases q⟩
    · rw [q]; exact ⟨o2, e2, fun v q => by rw [d2] at q; cases q⟩
  keep := fun i h h' st k => by
    obtain ⟨hz, hTI, ⟨x, y, hTO⟩, h1, ⟨o2, e2, r2⟩⟩ := st
    exact ⟨k z (by simp) _ hz, k TI (by simp) _ hTI, ⟨x, y, k TO (by simp) _ hTO⟩, h1.at fun o q => k i1 (by simp) o q, ⟨o2, k i2 (by simp) _ e2, r2⟩⟩
  item := by
    intro X hP hw hK hc i pins s σ H E I hf st hg
    subst hP hw hK
    obtain ⟨hz, hTI, ⟨x0, y0, hTO⟩, h1, h2⟩ := st
    obtain ⟨xs, hqx, hx, hy⟩ := hg
    obtain ⟨its, rv, p, _⟩ := I.tuple hqx
    have hl := rv.length
    have hzl : z < s.heap.objs.size := Heap.lt_size hz
    refine wpAny_pyNext_zipD2_item D (Draws.tuple (prog := X.prog) (w := X.w) (A := X.A.in1) (I.ok.hd hc) i1 a hne its.toArray) (Draws.text (prog := X.prog) (w := X.w) (A := X.A.in1) (I.ok.hd hc) i2 x t) hz hTI hTO (show s.heap.IsTupleIter i1 a i ∧ s.heap.IsTuple a its.toArray from ⟨h1, p⟩) h2 (by rw [List.size_toArray]; omega) hy fun u u2 h' tk hu hu2 z' TO' st1 st2 hT hsz hk => ?_
    obtain ⟨c, tu, hcx, rfl⟩ := hu2
    refine ⟨_, rfl, wpAny_letOwnedTupleGo_zip (s := { s with heap := h', toks := tk }) z' fun h'' z'' sb => ?_⟩
    have hT2 : h''.get? s.heap.objs.size = some { cls := .type "tuple", data := .seq #[u, .str ⟨#[c]⟩ tu] } := (sb.2 _ (Nat.ne_of_gt hzl)).trans hT
    obtain ⟨u', hu', ru⟩ := rv.get (List.getElem?_eq_getElem hx)
    have eu : u' = u := by
      have hu : its.toArray[i]? = some u := hu
      rw [List.getElem?_toArray, hu'] at hu
      exact Option.some.inj hu
    subst eu
    have new : ObjOk X.prog X.w (upd H s.heap.objs.size (.tup [xs[i], .str ⟨#[c]⟩])) h'' s.heap.objs.size (.tup [xs[i], .str ⟨#[c]⟩]) :=
      ⟨by show 2 ≤ sizeLine; decide, [u', .str ⟨#[c]⟩ tu], .cons ru (.cons ⟨tu, rfl⟩ .nil), ⟨_, hT2, rfl, _, rfl⟩⟩
    have I1 : Inv X pins σ (upd H s.heap.objs.size (.tup [xs[i], .str ⟨#[c]⟩])) { s with heap := h'', toks := tk } :=
      I.turnedNew (t' := tk) (ch := [z, TI, TO, i1, i2]) (fun c o hb q => (sb.2 c (fun q' => hb (by simp [q']))).trans (hk c o (fun q' => hb (by simp [q'])) (fun q' => hb (by simp [q'])) (fun q' => hb (by simp [q'])) (fun q' => hb (by simp [q'])) q)) hf (Nat.le_refl _) new
    have st1 : h'.IsTupleIter i1 a (i + 1) := st1.1
    obtain ⟨o2, e2, r2⟩ := st2
    have i1z : i1 ≠ z := Ne.symm D.zi1
    have i2z : i2 ≠ z := Ne.symm D.zi2
    refine ⟨.ref s.heap.objs.size, _, I1, rfl, ⟨_, xs[i], c, rfl, I.hok.fresh (Nat.le_refl _), rfl, fun l hl => ?_, hcx⟩, ⟨z'', ?_, ⟨u', .str ⟨#[c]⟩ tu, ?_⟩, ?_, ⟨o2, ?_, r2⟩⟩, fun c hcm => ?_⟩
    · rw [I.tuple_inj hl hqx]; exact List.getElem?_eq_getElem hx
    · exact (sb.2 _ D.TIz).trans (hk _ _ D.TIz D.TITO D.TIi1 D.TIi2 hTI)
    · exact (sb.2 _ D.TOz).trans TO'
    · exact st1.at fun o q => (sb.2 _ i1z).trans q
    · exact (sb.2 _ i2z).trans e2
    · have hlt : c < s.heap.objs.size := by
        have e' : c = z ∨ c = TI ∨ c = TO ∨ c = i1 ∨ c = i2 := by simpa using hcm
        rcases e' with q | q | q | q | q
        · rw [q]; exact hzl
        · rw [q]; exact Heap.lt_size hTI
        · rw [q]; exact Heap.lt_size hTO
        · rw [q]; obtain ⟨_, e1, _⟩ := h1; exact Heap.lt_size e1
        · rw [q]; obtain ⟨_, e2, _⟩ := h2; exact Heap.lt_size e2
      rw [upd_ne (Nat.ne_of_lt hlt)]
      exact (hf c hcm).1
  done := by
    intro X hP hw hK hc i pins s σ H E I hf st hg
    subst hP hw hK
    obtain ⟨hz, hTI, ⟨x0, y0, hTO⟩, h1, h2⟩ := st
    obtain ⟨xs, hqx, hx, hy⟩ := hg
    obtain ⟨its, rv, p, _⟩ := I.tuple hqx
    have hl := rv.length
    exact wpAny_pyNext_zipD2_end D (Draws.tuple (prog := X.prog) (w := X.w) (A := X.A.in1) (I.ok.hd hc) i1 a hne its.toArray) (Draws.text (prog := X.prog) (w := X.w) (A := X.A.in1) (I.ok.hd hc) i2 x t) hz hTI hTO (show s.heap.IsTupleIter i1 a i ∧ s.heap.IsTuple a its.toArray from ⟨h1, p⟩) h2 (by rw [List.size_toArray]; omega) (by omega) (.inr hy) fun h' tk hk => ⟨rfl, I.turnedL (t' := tk) (ch := [z, TI, TO, i1, i2]) (fun c o hb q =>
      hk c o (fun q' => hb (by simp [q'])) (fun q' => hb (by simp [q'])) (fun q' => hb (by simp [q'])) (fun q' => hb (by simp [q'])) q) hf⟩
  self := fun A i s Q E st h => wpAny_pyIter_zip st.1 h
def iZipS (K : PySem.W.Frag) (ta : TA) : TI := fun σ H R => ta σ H fun vs H1 => ∃ a z xs, vs = [.ref a, .str z] ∧ SqT K H1 a xs ∧ R (ItzS K a z) H1
theorem pi_zipTS {X : Cx} {e e2 : Expr} {ta : TA} {p pos tpos : Pos} {elts : List Expr} {kk : Nat} (hg : Gl X "zip") (hm : X.mg "zip" = none) (ha : PA X [e, e2] ta)
    (hs : starEach [e, e2] X.env = (false, eval e X.env) :: starEach [e2] X.env := by rfl) (hpl : (backTo pos (starEach [e2] X.env)).any (·.1) = false := by rfl) :
    PI X (.Tuple elts kk tpos) (.Call (.Name "zip" p) [e, e2] [] pos) (iZipS X.K ta) := by
  refine ⟨fun pins s σ H R I h => ?_⟩
  refine Call_ (ld_blt I hg hm PyProof.Rows.boot_zip (PyProof.Rows.callWith_type1 (thn (ha.run pos pins s σ H _ I h) fun us s1 ⟨vs, H1, I1, r1, q1⟩ => ?_) hs hpl))
  obtain ⟨a, z, xs, ex, hqx, q⟩ := q1
  subst ex
  cases r1 with
  | cons r rr =>
    cases rr with
    | cons r' rr =>
      cases rr
      cases r
      obtain ⟨t, rfl⟩ := r'
      have fresh5 : ∀ c, c ∈ [s1.heap.objs.size + 4, s1.heap.objs.size + 2, s1.heap.objs.size + 3, s1.heap.objs.size, s1.heap.objs.size + 1] → FpOk X pins H1 c := fun c hcm => by
        have e' : c = s1.heap.objs.size + 4 ∨ c = s1.heap.objs.size + 2 ∨ c = s1.heap.objs.size + 3 ∨ c = s1.heap.objs.size ∨ c = s1.heap.objs.size + 1 := by simpa using hcm
        have hle : s1.heap.objs.size ≤ c := by
          rcases e' with z | z | z | z | z
          · rw [z]; exact Nat.le_add_right _ _
          · rw [z]; exact Nat.le_add_right _ _
          · rw [z]; exact Nat.le_add_right _ _
          · rw [z]; exact Nat.le_refl _
          · rw [z]; exact Nat.le_add_right _ _
        exact I1.fpOk hle (I1.hok.fresh hle)
      obtain ⟨its, rv, p1, _⟩ := I1.tuple hqx
      obtain ⟨o1, ho1, _⟩ := id p1
      have hlt : a < s1.heap.objs.size := Heap.lt_size ho1
      have D : ZipSep2 (s1.heap.objs.size + 4) (s1.heap.objs.size + 2) (s1.heap.objs.size + 3) s1.heap.objs.size (s1.heap.objs.size + 1) [s1.heap.objs.size, a] [s1.heap.objs.size + 1] := zip_sep2 (fp1 := [a]) (fp2 := []) (fun b hb => by rw [List.mem_singleton.mp hb]; exact hlt) (fun b hb => nomatch hb)
      refine zip_begins2 (begins_tuple a its.toArray) (begins_text z t) (show s1.heap.IsTuple a its.toArray from p1) trivial fun h' hz hTI hTO h1 h2 hsz hk => wpAny_pyIter_zip hz ?_
      have I2 : Inv X pins σ H1 { s1 with heap := h' } := I1.kept (t' := s1.toks) hk
      have ne : ∀ j : Nat, a ≠ s1.heap.objs.size + j := fun j => Nat.ne_of_lt (Nat.lt_of_lt_of_le hlt (Nat.le_add_right _ _))
      exact ⟨s1.heap.objs.size + 4, [s1.heap.objs.size + 4, s1.heap.objs.size + 2, s1.heap.objs.size + 3, s1.heap.objs.size, s1.heap.objs.size + 1], _, _, H1, rfl, I2, turn_zipTS (x := z) (t := t) D (ne 0) (ne 4) (ne 3) (ne 1), ⟨hz, hTI, ⟨_, _, hTO⟩, ⟨_, h1, rfl, rfl⟩, ⟨_, h2, rfl, rfl⟩⟩, fresh5, q⟩
section
variable {K : PySem.W.Frag} {σ : L2.St} {S H : Hp} {g : TG} {n : Nat} {u : Nat → L2.St → L2.St} {ta : TA}
/-- zip of a tuple and a text of one length -/
theorem turns_zipTS {P : List V → Hp → Prop} (h : EvAG ta σ S P) (hx : ∀ vs S1, Ex S S1 → P vs S1 → ∃ a xs z, vs = [.ref a, .str z] ∧ SqT K S1 a xs ∧ xs.length = n ∧ z.cps.size = n ∧
    ∀ i x c T (H : Hp) (σ' : L2.St) (Q : L2.St → Hp → Prop), xs[i]? = some x → z.cps[i]? = some c → Ex S1 H → H T = some (.tup [x, .str ⟨#[c]⟩]) → (∀ H3, Ex H H3 → Q (u i σ') H3) → g (.ref T) σ' H Q) : Turns (iZipS K ta) g σ S n u := fun H e R r =>
  h H e _ fun vs S1 H1 gr p => by
    obtain ⟨a, xs, z, rfl, hqa, hn, hz, hu⟩ := hx vs S1 gr.s p
    refine ⟨a, z, xs, rfl, ex_t gr.i hqa, r (ItzS K a z) (fun H' => SqT K H' a xs ∧ Ex S1 H') S1 H1 gr (fun H' q => ⟨ex_t q hqa, q⟩) (fun i H' hi q => ?_) (fun H' q => ?_) fun i H' x H'' σ' Q hi q y k => ?_⟩
    · exact ⟨xs, q.1, by omega, by omega⟩
    · exact ⟨xs, q.1, by omega, by omega⟩
    · obtain ⟨T, z1, c, rfl, hT, rfl, h1, h2⟩ := y
      exact hu i z1 c T _ σ' Q (h1 _ q.1) h2 (q.2.trans (Ex.new hT)) upd_same fun H3 e3 => k H3 ((Ex.new hT).trans e3)
end
end Tr
end
section
set_option Elab.async false
set_option linter.all false
set_option maxRecDepth 100000
set_option maxHeartbeats 4000000
namespace Tr
open PySem PySem.Spec PyProof.Rows L2 Evl
/-! ### texts, letter by letter -/
theorem foldT_size (bs : List Bool) : (foldT bs).cps.size = bs.length := foldT_len bs
theorem foldT_get {bs : List Bool} {i c : Nat} (h : (foldT bs).cps[i]? = some c) : i < bs.length ∧ (⟨#[c]⟩ : Str) = let1 (bs.getD i false) := by
  have e : (foldT bs).cps = (bs.map fun b => if b then 77 else 86).toArray := rfl
  rw [e, List.getElem?_toArray, List.getElem?_map] at h
  have hi : i < bs.length := by
    cases q : bs[i]? with
    | none => rw [q] at h; cases h
    | some b => exact (List.getElem?_eq_some_iff.mp q).1
  refine ⟨hi, ?_⟩
  rw [List.getElem?_eq_getElem hi] at h
  have h2 : (if bs[i] = true then 77 else 86) = c := Option.some.inj h
  rw [List.getD_eq_getElem?_getD, List.getElem?_eq_getElem hi]
  show _ = let1 bs[i]
  unfold let1
  rw [h2]
theorem let1_inj {a b : Bool} (h : let1 a = let1 b) : a = b := by
  have h2 : foldT [a] = foldT [b] := h
  have := foldT_inj h2
  injection this
def touch (e : Nat × Nat) (x : Nat) : Bool := decide (x = e.1) || decide (x = e.2)
/-- the letters of the hedges at x -/
def letsAt (es : List (Nat × Nat)) (bs : List Bool) (x : Nat) : List Bool := ((List.range es.length).filter fun i => touch (es.getD i (0, 0)) x).map fun i => bs.getD i false
/-- a dict that is made entry by entry -/
def dmk (kf : Nat → Key) (vf : Nat → V) : Nat → List (Key × V)
  | 0 => []
  | i + 1 => putK (dmk kf vf i) (kf i) (vf i)
theorem dmk_len (kf : Nat → Key) (vf : Nat → V) : ∀ i, (dmk kf vf i).length ≤ i
  | 0 => Nat.le_refl _
  | i + 1 => Nat.le_trans (length_putK _ _ _) (Nat.succ_le_succ (dmk_len kf vf i))
/-- all letters are one, and there is one -/
def mono1 (l : List Bool) : Bool := !l.isEmpty && (l.all id || l.all (!·))
theorem dmk_lets (l : List Bool) (v : V) : decide (V.int ((dmk (fun i => .inr (let1 (l.getD i false))) (fun _ => v) l.length).length : Int) = V.int 1) = mono1 l := by
  have key : ∀ i, i ≤ l.length → ∀ d, d = dmk (fun i => (.inr (let1 (l.getD i false)) : Key)) (fun _ => v) i →
      (i = 0 ∧ d = []) ∨ (0 < i ∧ ∃ b, d = [(.inr (let1 b), v)] ∧ ∀ j, j < i → l.getD j false = b) ∨ (d.length = 2 ∧ (∃ j, j < i ∧ l.getD j false = true) ∧ (∃ j, j < i ∧ l.getD j false = false) ∧ ∀ b, (d.any fun kv => decide (kv.1 = (.inr (let1 b) : Key))) = true) := by
    intro i
    induction i with
    | zero => exact fun _ d hd => .inl ⟨rfl, hd⟩
    | succ i ih =>
      intro hi d hd
      have hd : d = putK (dmk (fun i => (.inr (let1 (l.getD i false)) : Key)) (fun _ => v) i) (.inr (let1 (l.getD i false))) v := hd
      rcases ih (by omega) _ rfl with ⟨e1, e2⟩ | ⟨e1, b, e2, e3⟩ | ⟨e1, e2, e3, e4⟩
      · rw [e2] at hd
        refine .inr (.inl ⟨by omega, l.getD i false, by rw [hd]; rfl, fun j hj => ?_⟩)
        have : j = i := by omega
        rw [this]
      · rw [e2] at hd
        by_cases hb : l.getD i false = b
        · refine .inr (.inl ⟨by omega, b, ?_, fun j hj => ?_⟩)
          · rw [hd, hb]
            simp [putK]
          · by_cases hj2 : j = i
            · rw [hj2, hb]
            · exact e3 j (by omega)
        · have hd2 : d = [(.inr (let1 b), v), (.inr (let1 (l.getD i false)), v)] := by
            rw [hd]
            have hne : ¬ ((Sum.inr (let1 b) : Key) = .inr (let1 (l.getD i false))) := fun z => hb (let1_inj (Sum.inr.inj z)).symm
            have hany : ([((Sum.inr (let1 b) : Key), v)].any fun kv => decide (kv.1 = (Sum.inr (let1 (l.getD i false)) : Key))) = false := by
              rw [List.any_cons, List.any_nil, Bool.or_false]; exact decide_eq_false hne
            unfold putK
            rw [hany]; rfl
          refine .inr (.inr ⟨by rw [hd2]; rfl, ?_, ?_, fun b' => ?_⟩)
          · cases b with
            | true => exact ⟨i - 1, by omega, e3 _ (by omega)⟩
            | false => exact ⟨i, by omega, by simpa using hb⟩
          · cases b with
            | true => exact ⟨i, by omega, by simpa using hb⟩
            | false => exact ⟨i - 1, by omega, e3 _ (by omega)⟩
          · rw [hd2, List.any_cons, List.any_cons]
            by_cases hb' : b = b'
            · subst hb'; simp
            · have : l.getD i false = b' := by
                revert hb hb'
                generalize l.getD i false = x
                cases x <;> cases b <;> cases b' <;> simp
              rw [this]; simp
      · refine .inr (.inr ⟨?_, ?_, ?_, fun b' => ?_⟩)
        · rw [hd]; unfold putK; rw [if_pos (e4 _), List.length_map]; exact e1
        · obtain ⟨j, h1, h2⟩ := e2; exact ⟨j, by omega, h2⟩
        · obtain ⟨j, h1, h2⟩ := e3; exact ⟨j, by omega, h2⟩
        · rw [hd]; unfold putK; rw [if_pos (e4 _), List.any_map]
          have := e4 b'
          rw [List.any_eq_true] at this ⊢
          obtain ⟨kv, h1, h2⟩ := this
          refine ⟨kv, h1, ?_⟩
          show decide ((if kv.1 = _ then (kv.1, v) else kv).1 = _) = true
          split <;> exact h2
  have mem : ∀ j, j < l.length → l.getD j false ∈ l := fun j hj => by
    rw [List.getD_eq_getElem?_getD, List.getElem?_eq_getElem hj]; exact List.getElem_mem hj
  have bym : ∀ x ∈ l, ∃ j, j < l.length ∧ l.getD j false = x := fun x hx => by
    obtain ⟨j, hj, e⟩ := List.mem_iff_getElem.mp hx
    exact ⟨j, hj, by rw [List.getD_eq_getElem?_getD, List.getElem?_eq_getElem hj]; exact e⟩
  unfold mono1
  rcases key l.length (Nat.le_refl _) _ rfl with ⟨e1, e2⟩ | ⟨e1, b, e2, e3⟩ | ⟨e1, ⟨j, e2, e5⟩, ⟨k, e3, e6⟩, _⟩
  · rw [e2]
    have : l = [] := List.length_eq_zero_iff.mp e1
    rw [this]; simp
  · rw [e2]
    have hl : l ≠ [] := fun z => by rw [z] at e1; exact absurd e1 (by decide)
    have hall : ∀ x ∈ l, x = b := fun x hx => by
      obtain ⟨j, hj, e⟩ := bym x hx
      rw [← e]; exact e3 j hj
    have h1 : l.isEmpty = false := by cases l with
      | nil => exact absurd rfl hl
      | cons => rfl
    rw [h1]
    cases b with
    | true =>
      have : l.all id = true := List.all_eq_true.mpr fun x hx => hall x hx
      rw [this]; simp
    | false =>
      have : l.all (!·) = true := List.all_eq_true.mpr fun x hx => by rw [hall x hx]; rfl
      rw [this]; simp
  · have h1 : l.all id = false := by
      rw [Bool.eq_false_iff]
      intro z
      have := List.all_eq_true.mp z _ (mem k e3)
      rw [e6] at this; cases this
    have h2 : l.all (!·) = false := by
      rw [Bool.eq_false_iff]
      intro z
      have := List.all_eq_true.mp z _ (mem j e2)
      rw [e5] at this; cases this
    rw [h1, h2]
    generalize dmk _ _ _ = d at e1 ⊢
    rw [e1]
    simp
section
variable {K : PySem.W.Frag} {σ : L2.St} {S H : Hp} {t1 t2 te tk tv : TE} {g : TG} {n : Nat} {u : Nat → L2.St → L2.St} {wi : TI}
theorem turns_str {bs : List Bool} {j : Nat} (h : Ev te σ S (.str (foldT bs))) : Turns (iStr te) (gName j) σ S bs.length fun i σ' => σ'.set j (some (.str (let1 (bs.getD i false)))) := fun H e R r =>
  h H e _ fun H1 e1 => ⟨foldT bs, rfl, r (Its (foldT bs)) (fun _ => True) S H1 (Gr.of_ex e e1) (fun _ _ => trivial) (fun i H' hi _ => by show i < (foldT bs).cps.size; rw [foldT_size]; exact hi) (fun H' _ => by show (foldT bs).cps.size ≤ _; rw [foldT_size]; exact Nat.le_refl _) fun i H' x H'' σ' Q hi _ y k => by
    obtain ⟨e2, c, hc, rfl⟩ := y
    subst e2
    obtain ⟨_, e3⟩ := foldT_get hc
    show Q (σ'.set j (some (.str ⟨#[c]⟩))) H''
    rw [e3]
    exact k H'' (Ex.refl _)⟩
/-- hedge, letter over zip(hedges, text) -/
theorem turns_hedges {b : V} {es : List (Nat × Nat)} {bs : List Bool} {j k : Nat} (h1 : Ev t1 σ S b) (h2 : Ev t2 σ S (.str (foldT bs))) (hB : PairsT S b es) (hl : bs.length = es.length) :
    ∃ pv : Nat → V, (∀ i, i < es.length → PairV S (pv i) (es.getD i (0, 0))) ∧ Turns (iZipS K (tCons t1 (tCons t2 tNil))) (gTup K 2 (gCons (gName j) (gCons (gName k) gNil))) σ S es.length fun i σ' => (σ'.set j (some (pv i))).set k (some (.str (let1 (bs.getD i false)))) := by
  obtain ⟨ps, ⟨a, rfl, ha⟩, hps⟩ := hB
  refine ⟨fun i => ps.getD i .non, fun i hi => ?_, turns_zipTS (P := fun vs _ => vs = [.ref a, .str (foldT bs)]) (eag_cons h1 (eag_cons h2 (eag_nil rfl))) fun vs S1 e hv => ⟨a, ps, foldT bs, hv, st_of (e _ _ ha), hps.length, by rw [foldT_size, hl], fun i x c T H σ' Q hx hc e' hT q => ?_⟩⟩
  · obtain ⟨v, hv, hp⟩ := pgetR hps (i := i) (b := es.getD i (0, 0)) (by rw [List.getD_eq_getElem?_getD, List.getElem?_eq_getElem hi]; rfl)
    show PairV S (ps.getD i .non) _
    rw [getD_of hv]; exact hp
  · obtain ⟨_, e3⟩ := foldT_get hc
    refine g_pair (x := x) (y := .str ⟨#[c]⟩) (st_of hT) ?_
    have := q H (Ex.refl _)
    show Q ((σ'.set j (some x)).set k (some (.str ⟨#[c]⟩))) H
    rw [e3, ← getD_of (x := x) hx]
    exact this
/-- (one, other), letter over zip(hedges, text) -/
theorem turns_hedges2 {b : V} {es : List (Nat × Nat)} {bs : List Bool} {j k l : Nat} (h1 : Ev t1 σ S b) (h2 : Ev t2 σ S (.str (foldT bs))) (hB : PairsT S b es) (hl : bs.length = es.length) :
    Turns (iZipS K (tCons t1 (tCons t2 tNil))) (gTup K 2 (gCons (gTup K 2 (gCons (gName j) (gCons (gName k) gNil))) (gCons (gName l) gNil))) σ S es.length fun i σ' => ((σ'.set j (some (.int ((es.getD i (0, 0)).1 : Int)))).set k (some (.int ((es.getD i (0, 0)).2 : Int)))).set l (some (.str (let1 (bs.getD i false)))) := by
  obtain ⟨ps, ⟨a, rfl, ha⟩, hps⟩ := hB
  refine turns_zipTS (P := fun vs _ => vs = [.ref a, .str (foldT bs)]) (eag_cons h1 (eag_cons h2 (eag_nil rfl))) fun vs S1 e hv => ⟨a, ps, foldT bs, hv, st_of (e _ _ ha), hps.length, by rw [foldT_size, hl], fun i x c T H σ' Q hx hc e' hT q => ?_⟩
  obtain ⟨_, e3⟩ := foldT_get hc
  obtain ⟨p, hp, t, rfl, ht⟩ := pget hps hx
  have ep : es.getD i (0, 0) = p := by rw [List.getD_eq_getElem?_getD, hp]; rfl
  have := q H (Ex.refl _)
  rw [ep, ← e3] at this
  exact ⟨T, _, rfl, st_of hT, rfl, .ref t, _, rfl, g_pair (st_of (e' _ _ (e _ _ ht))) ⟨.str ⟨#[c]⟩, [], rfl, rfl, this⟩⟩
/-- a dict comprehension whose entries are known -/
theorem dc_map {vs : List Nat} (kf : Nat → Key) (vf : Nat → V) (ht : Turns wi g σ S n u) (hw : ∀ i, i < n → wipe (u i (wipe σ vs)) vs = wipe σ vs) (hz : n ≤ 100000)
    (hk : ∀ i S1, i < n → Ex S S1 → Ev tk (u i (wipe σ vs)) S1 (kV (kf i))) (hv : ∀ i S1, i < n → Ex S S1 → Ev tv (u i (wipe σ vs)) S1 (vf i)) :
    EvG (tDc wi g tYes tk tv vs) σ S fun v S' => ∃ a, v = .ref a ∧ S' a = some (.dK (dmk kf vf n)) := by
  intro H e Q q
  refine ht H e _ fun J G S1 H1 gr hG hgo hst hy => fun D hD => ?_
  have hDH : H D = none := gr.fr e hD
  have hSD : S1 D = none := fresh_back gr.i hD
  refine ⟨fun i m H' => m = n - i ∧ i ≤ n ∧ Ex S1 H' ∧ H' D = some (.dK (dmk kf vf i)) ∧ (∀ b o, H b = some o → H' b = some o), ⟨n, by simp, Nat.zero_le _, gr.i.mut hSD, upd_same, fun b o hb => ?_⟩, ?_⟩
  · rw [upd_ne (ne_of_none hb hDH)]
    exact gr.ex b o hb
  rintro i m H' ⟨rfl, hi, x1, hHD, hkp⟩
  have hq := hG H' x1
  by_cases hlt : i < n
  · refine .inr ⟨hgo i H' hlt hq, fun H2 => i + 1 ≤ n ∧ Ex S1 H2 ∧ H2 D = some (.dK (dmk kf vf (i + 1))) ∧ (∀ b o, H b = some o → H2 b = some o), fun H2 p2 => ⟨n - (i + 1), by omega, rfl, p2⟩, fun x H2 y => ?_⟩
    refine hy i H' x H2 (wipe σ vs) _ hlt hq y fun H3 e3 => ⟨hw i hlt, ?_⟩
    show tk _ H3 _
    refine hk i S1 hlt gr.s H3 (x1.trans e3) _ fun H4 e4 => hv i S1 hlt gr.s H4 ((x1.trans e3).trans e4) _ fun H5 e5 => ?_
    refine ⟨dmk kf vf i, kf i, rfl, e5 _ _ (e4 _ _ (e3 _ _ hHD)), sz_lt (by have := dmk_len kf vf i; omega), hlt, (((x1.trans e3).trans e4).trans e5).mut hSD, upd_same, fun b o hb => ?_⟩
    rw [upd_ne (ne_of_none hb hDH)]
    exact e5 _ _ (e4 _ _ (e3 _ _ (hkp b o hb)))
  · have ei : i = n := by omega
    subst ei
    refine .inl ⟨hst H' hq, q (.ref D) (upd S1 D (.dK (dmk kf vf i))) H' ⟨gr.s.trans (Ex.new hSD), fun b o h => ?_, fun b o _ h => hkp b o h, fun b h hn => ?_, fun b h => ?_⟩ ⟨D, rfl, upd_same⟩⟩
    · by_cases hb : b = D
      · subst hb; rw [upd_same] at h; rw [hHD, ← h]
      · rw [upd_ne hb] at h; exact x1 b o h
    · have hb : b ≠ D := fun z => hn (by rw [z]; exact hDH)
      rw [upd_ne hb]; exact gr.f b h hn
    · obtain ⟨o, ho⟩ := Option.ne_none_iff_exists'.mp h
      rw [hkp b o ho]; simp
end
section
variable {P : Program} {w : World} {K : PySem.W.Frag} {mg : Str → Option Value} {base : Heap}
/-! ### need_folds, letters_at -/
def sp_need_folds : Sp := fun vs H Q _ => ∃ (v : V) (n : Nat) (es : List (Nat × Nat)) (bs : List Bool), vs = [v, .str (foldT bs)] ∧ WebV H v n es ∧ EdgesOk n es ∧ bs.length = es.length ∧ RetV .non H Q
theorem sp_need_folds_ok {S : Hp} {v : V} {n : Nat} {es : List (Nat × Nat)} {bs : List Bool} (hW : WebV S v n es) (ok : EdgesOk n es) (hl : bs.length = es.length) : SpV sp_need_folds ([v, .str (foldT bs)] ++ []) S .non := fun H e Q q _ => ⟨v, n, es, bs, rfl, hW.mono e, ok, hl, q⟩
theorem ok_need_folds (T : Tx K mg) : OkD P w K mg base 1 "need_folds" ["web", "value"] sp_need_folds := by
  refine mk_need_folds T (fun vs H Q E h => ?_) (fun f cdv A outer s H vs Q E hr h => ?_)
  · obtain ⟨v, n, es, bs, rfl, _⟩ := h
    rfl
  · obtain ⟨v, n, es, bs, rfl, ⟨b, hT, hB⟩, ok, hl, q⟩ := h
    refine ⟨_, (pss_one (ps_if (PW.pt (pw_or (pt_not (pt_val (pe_callB (isiK K) (by rfl) T.b_isinstance (by decide +kernel) (pa_cons (pv 1) (pa_cons (pe_bltn (v := .ty "str") (by rfl) T.b_str (by decide +kernel) rfl) pa_nil))))) (pw_or (pt_cmpR op_ne (pe_callB call_len_str (by rfl) T.b_len (by decide +kernel) (pa_cons (pv 1) pa_nil)) (pe_callB (lenK K) (by rfl) T.b_len (by decide +kernel) (pa_cons (pe_ix (ixTK K) (pv 0) pe_int (fun _ _ => rfl)) pa_nil)) (nomark _)) (pw_or1 (pt_not (pt_val (pe_callB (allK K) (by rfl) T.b_all (by decide +kernel) (pa_cons (pe_lc (own := [("letter", 2)]) (g := (gName 2)) rfl sc_need_folds.nd (pi_str (pv 1)) (blkOk_by (own := [("letter", 2)]) (N := N_need_folds) (sc := defScope s_need_folds) (by decide +kernel)) (fun _ _ _ _ _ => (pg_name (i := 2) sc_need_folds.nd rfl (Or.inl rfl))) (fun _ _ _ _ _ => pts_nil) (fun _ _ _ _ _ => (pe_cmpR (inK K) (pv 2) (pe_tup (pa_cons pe_str (pa_cons pe_str pa_nil))) (by rfl)))) pa_nil))))))))
      (pss_one ps_never)
      pss_nil)), ?_⟩
    obtain ⟨ps, ⟨a, eb, ha⟩, hps⟩ := id hB
    have hfew := ok.few
    refine s_when (b := !true || (!decide (V.int (((foldT bs).length : Nat) : Int) = V.int ((ps.length : Nat) : Int)) || !true)) (et_or (et_not (et_B (ev_cb (ea_cons (ev_var rfl) (ea_cons ev_c ea_nil)) (rc_isi (fun _ _ => .base (.str _)) (by decide +kernel))))) (fun _ => et_or (et_test (ev_op (ev_cb (ea_cons (ev_var rfl) ea_nil) fun H1 e1 Q1 q1 => ⟨foldT bs, rfl, sz_of (by rw [foldT_len]; omega), q1 H1 (Ex.refl H1)⟩) (ev_lenT (ev_ixT (j := 1) (ev_var rfl) ev_c hT rfl) ⟨a, eb, ha⟩) (rv_ne rfl))) (fun _ => et_not (et_B (ev_all ?_))))) (fun hb => ?_) (fun _ H1 e1 => q H1 e1)
    · refine EvG.imp (lc_map (n := bs.length) (fun i => V.bl true) (turns_str (ev_var rfl)) (fun i _ => set1_wipe _ _ _) (by omega) (fun i S1 hi e => ?_)) fun v S' _ hv => ⟨(List.range bs.length).map fun _ => true, by rw [List.map_map]; exact hv, all_map fun _ _ => rfl⟩
      refine ev_bl (ev_inU (x := .str (let1 (bs.getD i false))) (ev_var rfl) (eu_tup (ea_cons ev_c (ea_cons ev_c ea_nil)) (by decide)) rfl rfl) ?_
      rw [let_M, let_V]
      generalize bs.getD i false = x
      cases x <;> decide +kernel
    · rw [foldT_len, hl, ← hps.length] at hb; simp at hb
def sp_letters : Sp := fun vs H Q _ => ∃ (S : Hp) (v : V) (n : Nat) (es : List (Nat × Nat)) (bs : List Bool) (x : Nat), vs = [v, .str (foldT bs), .int (x : Int)] ∧ Ex S H ∧ WebV S v n es ∧ EdgesOk n es ∧ bs.length = es.length ∧
  RetG S H (fun r S' => LstA S' r ((letsAt es bs x).map fun b => .str (let1 b))) Q
theorem sp_letters_ok {S : Hp} {v : V} {n : Nat} {es : List (Nat × Nat)} {bs : List Bool} {x : Nat} (hW : WebV S v n es) (ok : EdgesOk n es) (hl : bs.length = es.length) : SpG sp_letters ([v, .str (foldT bs), .int (x : Int)] ++ []) S (fun r S' => LstA S' r ((letsAt es bs x).map fun b => .str (let1 b))) := fun H e Q E q => ⟨S, v, n, es, bs, x, rfl, e, hW, ok, hl, q⟩
theorem in_pair {e : Nat × Nat} {x : Nat} : inV (.int (x : Int)) [.int (e.1 : Int), .int (e.2 : Int)] = touch e x := by
  show (decide ((e.1 : Int) = (x : Int)) || (decide ((e.2 : Int) = (x : Int)) || false)) = _
  unfold touch
  rw [Bool.or_false]
  congr 1 <;> exact decide_eq_decide.mpr ⟨fun h => by omega, fun h => by omega⟩
theorem ok_letters_at (T : Tx K mg) : OkD P w K mg base 1 "letters_at" ["web", "text", "field"] sp_letters := by
  refine mk_letters_at T (fun vs H Q E h => ?_) (fun f cdv A outer s H vs Q E hr h => ?_)
  · obtain ⟨S, v, n, es, bs, x, rfl, _⟩ := h
    rfl
  · obtain ⟨S, v, n, es, bs, x, rfl, eH, ⟨b, hT, hB⟩, ok, hl, q⟩ := h
    refine ⟨_, (pss_one (ps_ret (pe_lc (own := [("hedge", 3), ("letter", 4)]) (g := (gTup K 2 (gCons (gName 3) (gCons (gName 4) gNil)))) rfl sc_letters_at.nd (pi_zipTS (by rfl) T.b_zip (pa_cons (pe_ix (ixTK K) (pv 0) pe_int (fun _ _ => rfl)) (pa_cons (pv 1) pa_nil))) (blkOk_by (own := [("hedge", 3), ("letter", 4)]) (N := N_letters_at) (sc := defScope s_letters_at) (by decide +kernel)) (fun _ _ _ _ _ => (pg_tup rfl (pgs_cons (pg_name (i := 3) sc_letters_at.nd rfl (Or.inl rfl)) (pgs_cons (pg_name (i := 4) sc_letters_at.nd rfl (Or.inl rfl)) pgs_nil)))) (fun _ _ _ _ _ => (pts_one (pt_cmpR (inK K) (pv 2) (pv 3) (by rfl)))) (fun _ _ _ _ _ => (pv 4))))), ?_⟩
    have hfew := ok.few
    obtain ⟨pv, hpv, ht⟩ := turns_hedges (K := K) (j := 3) (k := 4) (σ := start N_letters_at [v, .str (foldT bs), .int (x : Int)]) (t1 := tOp (rIxT K) (tVar 0) (tC (.int 1))) (t2 := tVar 1) (ev_ixT (j := 1) (ev_var rfl) ev_c hT rfl) (ev_var rfl) hB hl
    refine s_retG (P := fun r S' => LstA S' r ((letsAt es bs x).map fun b => .str (let1 b))) (EvG.imp (lc_filter (n := es.length) (fun i => touch (es.getD i (0, 0)) x) (fun i => V.str (let1 (bs.getD i false))) ht (fun i _ => set2_wipe _ _ _ _ _) (by omega) (fun i S1 hi e => ?_) (fun i S1 hi _ e => ev_var rfl)) fun r S' _ hr => ?_) eH q
    · obtain ⟨a, ea, ha⟩ := (hpv i hi).mono e
      rw [← in_pair]
      exact et_test (ev_op (x := .int (x : Int)) (y := pv i) (ev_var rfl) (ev_var rfl) (by rw [ea]; exact rv_isT (st_of ha) rfl rfl))
    · unfold letsAt
      rw [List.map_map]; exact hr
end
end Tr
end
section
set_option Elab.async false
set_option linter.all false
set_option maxRecDepth 100000
set_option maxHeartbeats 4000000
namespace Tr
open PySem PySem.Spec PyProof.Rows L2 Evl
def rLenD : List V → Hp → VK → Prop := fun xs H Q => ∃ a kvs, xs = [V.ref a] ∧ H a = some (.dK kvs) ∧ Q (.int (kvs : List (Key × V)).length) H
section
variable {K : PySem.W.Frag} {σ : L2.St} {S H : Hp} {tl : TE}
theorem letsAt_len {es : List (Nat × Nat)} {bs : List Bool} {x : Nat} : (letsAt es bs x).length ≤ es.length := by
  unfold letsAt
  rw [List.length_map]
  exact Nat.le_trans (List.length_filter_le _ _) (by rw [List.length_range]; exact Nat.le_refl _)
/-- len({letter: True for letter in letters}) -/
theorem ev_ncol {l : List Bool} {j : Nat} (h : EvG tl σ S fun r S' => LstA S' r (l.map fun b => .str (let1 b))) (hl : l.length ≤ 100000) (hj : j < σ.length) :
    Ev (tCB rLenD (tCons (tDc (iList K tl) (gName j) tYes (tVar j) (tC (.bl true)) [j]) tNil)) σ S (.int ((dmk (fun i => .inr (let1 (l.getD i false))) (fun _ => .bl true) l.length).length : Int)) := by
  refine ev_cbG (dc_map (n := l.length) (u := fun i σ' => σ'.set j (some (.str (let1 (l.getD i false))))) (fun i => .inr (let1 (l.getD i false))) (fun _ => .bl true) (turns_new (K := K) h fun v S1 e ⟨a, ev, ha⟩ => ⟨a, _, ev, sq_of ha, List.length_map _, fun i x H σ' Q hx e' q => ?_⟩) (fun i _ => set1_wipe _ _ _) hl (fun i S1 hi e => ev_var ?_) (fun i S1 hi e => ev_c)) fun v S1 e ⟨a, ev, ha⟩ H1 e1 Q q => ⟨a, _, by rw [ev], e1 _ _ ha, q H1 (Ex.refl H1)⟩
  · rw [List.getElem?_map] at hx
    cases hb : l[i]? with
    | none => rw [hb] at hx; cases hx
    | some b =>
      rw [hb] at hx
      have e2 : l.getD i false = b := by rw [List.getD_eq_getElem?_getD, hb]; rfl
      have := q H (Ex.refl _)
      rw [e2] at this
      cases hx
      exact this
  · have hw : j < (wipe σ [j]).length := by rw [wipe_length]; exact hj
    rw [List.getElem?_set_self hw]; rfl
end
section
variable {P : Program} {w : World} {K : PySem.W.Frag} {mg : Str → Option Value} {base : Heap}
/-! ### open_faces -/
def openL (n : Nat) (es : List (Nat × Nat)) (bs : List Bool) : List Nat := (List.range n).filter fun x => mono1 (letsAt es bs x)
def sp_open : Sp := fun vs H Q _ => ∃ (S : Hp) (v : V) (n : Nat) (es : List (Nat × Nat)) (c : Nat → Nat) (bs : List Bool), vs = [v, .str (foldT bs)] ∧ Ex S H ∧ WebV S v n es ∧ WebOk n es c ∧ bs.length = es.length ∧
  RetG S H (fun r S' => TupA S' r (nV (openL n es bs))) Q
theorem sp_open_ok {S : Hp} {v : V} {n : Nat} {es : List (Nat × Nat)} {c : Nat → Nat} {bs : List Bool} (hW : WebV S v n es) (ok : WebOk n es c) (hl : bs.length = es.length) : SpG sp_open ([v, .str (foldT bs)] ++ []) S (fun r S' => TupA S' r (nV (openL n es bs))) := fun H e Q E q => ⟨S, v, n, es, c, bs, rfl, e, hW, ok, hl, q⟩
theorem ok_open_faces (T : Tx K mg) : OkD P w K mg base 6 "open_faces" ["web", "text"] sp_open := by
  refine mk_open_faces T (fun vs H Q E h => ?_) (fun f cdv A outer s H vs Q E hr h => ?_)
  · obtain ⟨S, v, n, es, c, bs, rfl, _⟩ := h
    rfl
  · obtain ⟨S, v, n, es, c, bs, rfl, eH, hW, ok, hl, q⟩ := h
    refine ⟨_, (pss_cons (ps_expr (pcall (ok_need_web T) (hr.mono (by decide)) (pa_cons (pv 0) pa_nil)))
    (pss_cons (ps_expr (pcall (ok_need_folds T) (hr.mono (by decide)) (pa_cons (pv 0) (pa_cons (pv 1) pa_nil))))
    (pss_one (ps_ret (pe_callTy (tupOfK K) (by rfl) T.b_tuple (by decide +kernel) (pa_cons (pe_lc (own := [("field", 2)]) (g := (gName 2)) rfl sc_open_faces.nd (pi_range1 (by rfl) T.b_range (pa_cons (pe_ix (ixTK K) (pv 0) pe_int (fun _ _ => rfl)) pa_nil)) (blkOk_by (own := [("field", 2)]) (N := N_open_faces) (sc := defScope s_open_faces) (by decide +kernel)) (fun _ _ _ _ _ => (pg_name (i := 2) sc_open_faces.nd rfl (Or.inl rfl))) (fun _ _ _ _ _ => (pts_one (pt_cmpR op_eq (pe_callB call_lenD (by rfl) T.b_len (by decide +kernel) (pa_cons (pe_dc (own := [("one", 3)]) (g := (gName 3)) rfl sc_open_faces.nd (piLK K (pcall (ok_letters_at T) (hr.mono (by decide)) (pa_cons (pv 0) (pa_cons (pv 1) (pa_cons (pv 2) pa_nil))))) (blkOk_by (own := [("one", 3)]) (N := N_open_faces) (sc := _) (by rfl)) (fun _ _ _ _ _ => (pg_name (i := 3) sc_open_faces.nd rfl (Or.inl rfl))) (fun _ _ _ _ _ => pts_nil) (fun _ _ _ _ _ => (pv 3)) (fun _ _ _ _ _ => pe_bl)) pa_nil)) pe_int (nomark _)))) (fun _ _ _ _ _ => (pv 2))) pa_nil)))))), ?_⟩
    have hfew := ok.form.few
    have hhi := ok.form.hi
    refine q_drop (ev_call (ea_cons (ev_var rfl) ea_nil) (sp_web_ok (hW.mono eH) ok)) (fun H1 e1 => ?_)
    refine q_drop (ev_call (ea_cons (ev_var rfl) (ea_cons (ev_var rfl) ea_nil)) (sp_need_folds_ok (hW.mono (eH.trans e1)) ok.form.edges hl)) (fun H2 e2 => ?_)
    obtain ⟨b, hT, hB⟩ := id hW
    refine s_retG (S := S) (P := fun r S' => TupA S' r (nV (openL n es bs))) (EvG.imp (eg_tupOf (lc_filter (n := n) (fun x => mono1 (letsAt es bs x)) (fun i => V.int (i : Int)) (turns_rng1 (j := 2) (ea_cons (ev_ixT (j := 0) (ev_var rfl) ev_c hT rfl) ea_nil) (by omega)) (fun i _ => set1_wipe _ _ _) (by omega) (fun i S1 hi e => ?_) (fun i S1 hi _ e => ev_var rfl))) fun r S' _ hr => hr) (eH.trans (e1.trans e2)) fun v S3 H3 g p => q v S3 H3 ((Gr.of_ex eH (e1.trans e2)).trans g) p
    rw [← dmk_lets _ (.bl true)]
    exact et_test (ev_op (ev_ncol (eg_call (ea_cons (ev_var rfl) (ea_cons (ev_var rfl) (ea_cons (ev_var rfl) ea_nil))) (sp_letters_ok (x := i) (hW.mono e) ok.form.edges hl)) (by have := letsAt_len (es := es) (bs := bs) (x := i); omega) (by have h : 3 < 4 := (by decide); exact h)) ev_c (rv_eq rfl))
/-! ### turn -/
def turnL (es : List (Nat × Nat)) (bs : List Bool) (x : Nat) : List Bool := (List.range es.length).map fun i => if touch (es.getD i (0, 0)) x then !(bs.getD i false) else bs.getD i false
theorem turnL_len {es : List (Nat × Nat)} {bs : List Bool} {x : Nat} : (turnL es bs x).length = es.length := by unfold turnL; rw [List.length_map, List.length_range]
def sp_turn : Sp := fun vs H Q _ => ∃ (v : V) (n : Nat) (es : List (Nat × Nat)) (c : Nat → Nat) (bs : List Bool) (x : Nat), vs = [v, .str (foldT bs), .int (x : Int)] ∧ WebV H v n es ∧ WebOk n es c ∧ bs.length = es.length ∧ x < n ∧ mono1 (letsAt es bs x) = true ∧ RetV (.str (foldT (turnL es bs x))) H Q
theorem sp_turn_ok {S : Hp} {v : V} {n : Nat} {es : List (Nat × Nat)} {c : Nat → Nat} {bs : List Bool} {x : Nat} (hW : WebV S v n es) (ok : WebOk n es c) (hl : bs.length = es.length) (hx : x < n) (ho : mono1 (letsAt es bs x) = true) : SpV sp_turn ([v, .str (foldT bs), .int (x : Int)] ++ []) S (.str (foldT (turnL es bs x))) := fun H e Q q _ => ⟨v, n, es, c, bs, x, rfl, hW.mono e, ok, hl, hx, ho, q⟩
theorem ok_turn (T : Tx K mg) : OkD P w K mg base 6 "turn" ["web", "text", "field"] sp_turn := by
  refine mk_turn T (fun vs H Q E h => ?_) (fun f cdv A outer s H vs Q E hr h => ?_)
  · obtain ⟨v, n, es, c, bs, x, rfl, _⟩ := h
    rfl
  · obtain ⟨v, n, es, c, bs, x, rfl, hW, ok, hl, hx, ho, q⟩ := h
    refine ⟨_, (pss_cons (ps_expr (pcall (ok_need_web T) (hr.mono (by decide)) (pa_cons (pv 0) pa_nil)))
    (pss_cons (ps_expr (pcall (ok_need_folds T) (hr.mono (by decide)) (pa_cons (pv 0) (pa_cons (pv 1) pa_nil))))
    (pss_cons (ps_expr (pcall (ok_need_field T) (hr.mono (by decide)) (pa_cons (pv 0) (pa_cons (pv 2) pa_nil))))
    (pss_cons (ps_if (pt_cmpR op_ne (pe_callB call_lenD (by rfl) T.b_len (by decide +kernel) (pa_cons (pe_dc (own := [("letter", 3)]) (g := (gName 3)) rfl sc_turn.nd (piLK K (pcall (ok_letters_at T) (hr.mono (by decide)) (pa_cons (pv 0) (pa_cons (pv 1) (pa_cons (pv 2) pa_nil))))) (blkOk_by (own := [("letter", 3)]) (N := N_turn) (sc := defScope s_turn) (by decide +kernel)) (fun _ _ _ _ _ => (pg_name (i := 3) sc_turn.nd rfl (Or.inl rfl))) (fun _ _ _ _ _ => pts_nil) (fun _ _ _ _ _ => (pv 3)) (fun _ _ _ _ _ => pe_bl)) pa_nil)) pe_int (nomark _))
      (pss_one ps_never)
      pss_nil)
    (pss_cons (ps_set (i := 4) sc_turn.nd rfl (.inl rfl) pe_str)
    (pss_cons (ps_for PassesOwn.never rfl (pi_zipTS (by rfl) T.b_zip (pa_cons (pe_ix (ixTK K) (pv 0) pe_int (fun _ _ => rfl)) (pa_cons (pv 1) pa_nil))) (pg_tup rfl (pgs_cons (pg_name (i := 5) sc_turn.nd rfl (Or.inl rfl)) (pgs_cons (pg_name (i := 3) sc_turn.nd rfl (Or.inl rfl)) pgs_nil)))
      (pss_one (ps_set (i := 4) sc_turn.nd rfl (.inl rfl) (pe_op op_add_str (pv 4) (pe_ifExp (pt_cmpR (notInK K) (pv 2) (pv 5) (by rfl)) (pv 3) (pe_ifExp (pt_cmpR op_eq (pv 3) pe_str (nomark _)) pe_str pe_str))))))
    (pss_one (ps_ret (pv 4))))))))), ?_⟩
    have hfew := ok.form.few
    obtain ⟨b, hT, hB⟩ := id hW
    refine q_drop (ev_call (ea_cons (ev_var rfl) ea_nil) (sp_web_ok hW ok)) (fun H1 e1 => ?_)
    refine q_drop (ev_call (ea_cons (ev_var rfl) (ea_cons (ev_var rfl) ea_nil)) (sp_need_folds_ok (hW.mono e1) ok.form.edges hl)) (fun H2 e2 => ?_)
    refine q_drop (ev_call (ea_cons (ev_var rfl) (ea_cons (ev_var rfl) ea_nil)) (fun H3 e3 Q3 q3 _ => ⟨v, n, b, x, rfl, hT.mono ((e1.trans e2).trans e3), hx, q3⟩)) (fun H3 e3 => ?_)
    have e03 := (e1.trans e2).trans e3
    refine q_when (b := !decide (V.int ((dmk (fun i => .inr (let1 ((letsAt es bs x).getD i false))) (fun _ => .bl true) (letsAt es bs x).length).length : Int) = V.int 1)) (et_test (ev_op (ev_ncol (eg_call (ea_cons (ev_var rfl) (ea_cons (ev_var rfl) (ea_cons (ev_var rfl) ea_nil))) (sp_letters_ok (x := x) (hW.mono e03) ok.form.edges hl)) (by have := letsAt_len (es := es) (bs := bs) (x := x); omega) (by have h : 3 < 6 := (by decide); exact h)) ev_c (rv_ne rfl))) (fun hb => ?_) (fun _ H4 e4 => ?_)
    · rw [dmk_lets, ho] at hb; cases hb
    have e04 := e03.trans e4
    refine q_asg (v := .str (foldT [])) (ev_is ev_c (by rw [show (("" : String) : Str) = foldT [] from by decide +kernel])) (fun H5 e5 => ?_)
    have e05 := e04.trans e5
    obtain ⟨pv, hpv, ht⟩ := turns_hedges (K := K) (S := H5) (j := 5) (k := 3) (σ := (start N_turn [v, .str (foldT bs), .int (x : Int)]).set 4 (some (.str (foldT [])))) (t1 := tOp (rIxT K) (tVar 0) (tC (.int 1))) (t2 := tVar 1) (ev_ixT (j := 1) (ev_var rfl) ev_c (hT.mono e05) rfl) (ev_var rfl) (hB.mono e05) hl
    let F : Nat → Bool := fun i => if touch (es.getD i (0, 0)) x then !(bs.getD i false) else bs.getD i false
    refine (for_turns (ht H5 (Ex.refl H5)) (fun S1 i σ' H' => Ex H5 S1 ∧ Ex S1 H' ∧ ∃ a b, σ' = [some v, some (.str (foldT bs)), some (.int (x : Int)), a, some (.str (foldT ((List.range i).map F))), b]) (fun S1 H6 g => ⟨g.s, g.i, none, none, rfl⟩) (fun S1 i σ' H' p => p.2.1) (fun S1 i σ' H' hi ⟨x1, x2, a, b, hσ⟩ H'' e'' => ?_) (fun S1 σ' H' ⟨x1, x2, a, b, hσ⟩ => ?_))
    · subst hσ
      obtain ⟨t, et, ha⟩ := ((hpv i hi).mono x1).mono (x2.trans e'')
      refine s_asg (v := .str (foldT ((List.range (i + 1)).map F))) (ev_is (ev_op (x := .str (foldT ((List.range i).map F))) (y := .str (let1 (F i))) (z := .str (foldT ((List.range i).map F) ++ let1 (F i))) (ev_var rfl) ?_ ?_) (by rw [range_snoc, foldT_snoc])) (fun H7 e7 => ⟨x1, (x2.trans e'').trans e7, _, _, rfl⟩)
      · refine ev_if (b := !touch (es.getD i (0, 0)) x) ?_ (fun hb => ?_) (fun hb => ?_)
        · rw [← in_pair]
          exact et_test (ev_op (x := .int (x : Int)) (y := pv i) (ev_var rfl) (ev_var rfl) (by rw [et]; exact rv_niT (st_of ha) rfl rfl))
        · have hb : touch (es.getD i (0, 0)) x = false := by simpa using hb
          have : F i = bs.getD i false := by show (if touch _ x = true then _ else _) = _; rw [hb]; rfl
          rw [this]; exact ev_var rfl
        · have hb : touch (es.getD i (0, 0)) x = true := by simpa using hb
          have : F i = !(bs.getD i false) := by show (if touch _ x = true then _ else _) = _; rw [hb]; rfl
          rw [this]
          refine ev_if (b := bs.getD i false) ?_ (fun hc => ?_) (fun hc => ?_)
          · refine et_is (et_test (ev_op (x := .str (let1 (bs.getD i false))) (y := .str (let1 true)) (ev_var rfl) (by rw [← let_M]; exact ev_c) (rv_eq rfl))) ?_
            generalize bs.getD i false = y
            cases y <;> decide +kernel
          · rw [hc]; rw [show (!true) = false from rfl, ← let_V]; exact ev_c
          · rw [hc]; rw [show (!false) = true from rfl, ← let_M]; exact ev_c
      · intro H7 e7 Q7 q7
        refine ⟨_, _, rfl, rfl, sz_of ?_, q7 H7 (Ex.refl H7)⟩
        rw [foldT_len, List.length_map, List.length_range]
        show i + 1 ≤ 100000
        omega
    · subst hσ
      exact s_ret (v := .str (foldT (turnL es bs x))) (ev_var rfl) (fun H6 e6 => q H6 ((e05.trans (x1.trans x2)).trans e6))
end
end Tr
end
section
set_option Elab.async false
set_option linter.all false
set_option maxRecDepth 100000
set_option maxHeartbeats 4000000
namespace Tr
open PySem PySem.Spec PyProof.Rows L2 Evl
/-! ### dicts -/
section
variable {K : PySem.W.Frag} {σ : L2.St} {S H : Hp} {td ty tv : TE} {D : Ends} {tz : TS} {a : Addr} {v x : V}
theorem ev_dgetK {kvs : List (Key × V)} {k : Key} (hd : Ev td σ S (.ref a)) (hy : Ev ty σ S (kV k)) (h : S a = some (.dK kvs)) (hv : valV kvs k = some v) : Ev (tDGet td ty) σ S v := fun H e Q q =>
  hd H e _ fun H1 e1 => hy H1 (e.trans e1) _ fun H2 e2 => ⟨a, v, rfl, by rw [← hv]; exact DGet.k (e2 _ _ (e1 _ _ (e _ _ h))), q H2 (e1.trans e2)⟩
theorem ev_dgetT {kvs : List (List Key × V)} {k : List Key} (hd : Ev td σ S (.ref a)) (hy : EvU ty σ S (k.map kV)) (h : S a = some (.dT kvs)) (hv : valV kvs k = some v) : Ev (tDGet td ty) σ S v := fun H e Q q =>
  hd H e _ fun H1 e1 => hy H1 (e.trans e1) _ fun p H2 _ e2 hp => ⟨a, v, rfl, by rw [← hv]; exact DGet.t (e2 _ _ (e1 _ _ (e _ _ h))) hp, q H2 (e1.trans e2)⟩
theorem et_dnotin {kvs : List (Key × V)} {k : Key} (hy : Ev ty σ S (kV k)) (hd : Ev td σ S (.ref a)) (h : S a = some (.dK kvs)) : EvT (tB (tDNotIn ty td)) σ S (!(valV kvs k).isSome) := fun H e Q q =>
  hy H e _ fun H1 e1 => hd H1 (e.trans e1) _ fun H2 e2 => ⟨a, _, rfl, DGet.k (e2 _ _ (e1 _ _ (e _ _ h))), _, rfl, q H2 (e1.trans e2)⟩
theorem et_din {kvs : List (Key × V)} {k : Key} (hy : Ev ty σ S (kV k)) (hd : Ev td σ S (.ref a)) (h : S a = some (.dK kvs)) : EvT (tB (tDIn ty td)) σ S (valV kvs k).isSome := fun H e Q q =>
  hy H e _ fun H1 e1 => hd H1 (e.trans e1) _ fun H2 e2 => ⟨a, _, rfl, DGet.k (e2 _ _ (e1 _ _ (e _ _ h))), _, rfl, q H2 (e1.trans e2)⟩
theorem s_dputK {kvs : List (Key × V)} {k : Key} (hv : Ev tv σ H v) (hd : Ev td σ H (.ref a)) (hy : Ev ty σ H (kV k)) (h : H a = some (.dK kvs)) (hz : kvs.length < 100000) (q : ∀ H1, Ex H H1 → D.nx σ (upd H1 a (.dK (putK kvs k v)))) : sDPut td ty tv D σ H :=
  hv H (Ex.refl H) _ fun H1 e1 => hd H1 e1 _ fun H2 e2 => hy H2 (e1.trans e2) _ fun H3 e3 => ⟨a, _, rfl, DPut.k (e3 _ _ (e2 _ _ (e1 _ _ h))) (sz_lt hz), q H3 ((e1.trans e2).trans e3)⟩
theorem q_dputK {kvs : List (Key × V)} {k : Key} (hv : Ev tv σ H v) (hd : Ev td σ H (.ref a)) (hy : Ev ty σ H (kV k)) (h : H a = some (.dK kvs)) (hz : kvs.length < 100000) (q : ∀ H1, Ex H H1 → tz D σ (upd H1 a (.dK (putK kvs k v)))) : tSeq (sDPut td ty tv) tz D σ H := s_dputK (D := { D with nx := tz D }) hv hd hy h hz q
theorem s_dputT {kvs : List (List Key × V)} {k : List Key} (hv : Ev tv σ H v) (hd : Ev td σ H (.ref a)) (hy : EvU ty σ H (k.map kV)) (h : H a = some (.dT kvs)) (hz : kvs.length < 100000) (q : ∀ H1, Ex H H1 → D.nx σ (upd H1 a (.dT (putK kvs k v)))) : sDPut td ty tv D σ H :=
  hv H (Ex.refl H) _ fun H1 e1 => hd H1 e1 _ fun H2 e2 => hy H2 (e1.trans e2) _ fun p H3 _ e3 hp => ⟨a, _, rfl, DPut.t (e3 _ _ (e2 _ _ (e1 _ _ h))) hp (sz_lt hz), q H3 ((e1.trans e2).trans e3)⟩
theorem q_dputT {kvs : List (List Key × V)} {k : List Key} (hv : Ev tv σ H v) (hd : Ev td σ H (.ref a)) (hy : EvU ty σ H (k.map kV)) (h : H a = some (.dT kvs)) (hz : kvs.length < 100000) (q : ∀ H1, Ex H H1 → tz D σ (upd H1 a (.dT (putK kvs k v)))) : tSeq (sDPut td ty tv) tz D σ H := s_dputT (D := { D with nx := tz D }) hv hd hy h hz q
end
/-- a field as a key -/
def kN (z : Nat) : Key := .inl (z : Int)
theorem kN_inj {a b : Nat} : kN a = kN b ↔ a = b := ⟨fun h => by have := Sum.inl.inj h; omega, fun h => by rw [h]⟩
def kE (a b : Nat) : List Key := [kN a, kN b]
theorem kE_inj {a b c d : Nat} : kE a b = kE c d ↔ a = c ∧ b = d := by
  unfold kE
  constructor
  · intro h
    injection h with h1 h2
    injection h2 with h2 _
    exact ⟨kN_inj.mp h1, kN_inj.mp h2⟩
  · rintro ⟨rfl, rfl⟩; rfl
/-- what is found so far -/
structure FdV (kvs : List (Key × V)) (d : Nat → Option Nat) (G : Nat → Int) (m : Nat) : Prop where
  v : ∀ z, valV kvs (kN z) = (d z).map fun _ => V.int (G z)
  l : kvs.length ≤ m
theorem FdV.put {kvs : List (Key × V)} {d : Nat → Option Nat} {G : Nat → Int} {m : Nat} (F : FdV kvs d G m) (z k : Nat) : FdV (putK kvs (kN z) (.int (G z))) (updF d z (some k)) G (m + 1) := by
  refine ⟨fun y => ?_, Nat.le_trans (length_putK _ _ _) (Nat.succ_le_succ F.l)⟩
  rw [valV_put]
  by_cases e : y = z
  · subst e; rw [if_pos rfl, updF_same]; rfl
  · rw [if_neg (fun h => e (kN_inj.mp h)), updF_ne e]; exact F.v y
/-- the steps of g -/
def StepsV (S : Hp) (v : V) (es : List (Nat × Nat)) (g : Nat → Int) : Prop := ∃ a kvs, v = .ref a ∧ S a = some (.dT kvs) ∧ ∀ u w, Adj es u w → valV kvs (kE u w) = some (.int (g w - g u))
theorem StepsV.mono {S S' : Hp} {v : V} {es : List (Nat × Nat)} {g : Nat → Int} (e : Ex S S') (h : StepsV S v es g) : StepsV S' v es g := let ⟨a, k, h1, h2, h3⟩ := h; ⟨a, k, h1, e _ _ h2, h3⟩
section
variable {P : Program} {w : World} {K : PySem.W.Frag} {mg : Str → Option Value} {base : Heap}
def sp_spread : Sp := fun vs H Q _ => ∃ (S : Hp) (v : V) (n : Nat) (es : List (Nat × Nat)) (h0 : Int) (st : V) (g : Nat → Int), vs = [v, .int h0, st] ∧ Ex S H ∧ WebV S v n es ∧ EdgesOk n es ∧ Conn es n ∧ 0 < n ∧ StepsV S st es g ∧
  RetG S H (fun r S' => LayV S' r n fun i => g i - g 0 + h0) Q
theorem ok_spread (T : Tx K mg) : OkD P w K mg base 2 "spread" ["web", "height", "steps"] sp_spread := by
  refine mk_spread T (fun vs H Q E h => ?_) (fun f cdv A outer s H vs Q E hr h => ?_)
  · obtain ⟨S, v, n, es, h0, st, g, rfl, _⟩ := h
    rfl
  · obtain ⟨S, v, n, es, h0, st, g, rfl, eH, hW, ok, hC, hn0, hSt, q⟩ := h
    refine ⟨_, (pss_cons (ps_asg (pe_tup (pa_cons (pcall (ok_nears_of T) (hr.mono (by decide)) (pa_cons (pv 0) pa_nil)) (pa_cons (pe_disp (pps_cons pe_int (pv 1) pps_nil) (by rfl) (by rfl) (by simp) (by decide)) (pa_cons (pe_lst (pa_cons pe_int pa_nil)) pa_nil)))) (pg_tup rfl (pgs_cons (pg_name (i := 3) sc_spread.nd rfl (Or.inl rfl)) (pgs_cons (pg_name (i := 4) sc_spread.nd rfl (Or.inr rfl)) (pgs_cons (pg_name (i := 5) sc_spread.nd rfl (Or.inl rfl)) pgs_nil)))))
    (pss_cons (ps_set (i := 6) sc_spread.nd rfl (.inl rfl) pe_int)
    (pss_cons (ps_while PassesOwn.never (pt_cmpR op_lt (pv 6) (pe_callB (lenK K) (by rfl) T.b_len (by decide +kernel) (pa_cons (pv 5) pa_nil)) (nomark _))
      (pss_cons (ps_set (i := 7) sc_spread.nd rfl (.inl rfl) (pe_ix (ixLK K) (pv 5) (pv 6) (fun _ _ => rfl)))
    (pss_cons (ps_for PassesOwn.never rfl (piLK K (pe_ix (ixLK K) (pv 3) (pv 7) (fun _ _ => rfl))) (pg_name (i := 8) sc_spread.nd rfl (Or.inl rfl))
      (pss_one (ps_if (pt_cmp (pc_dnotin (hu_of hr) (pv 8) (pv 4)))
      (pss_cons (ps_dput (hu_of hr) (pv 4) (pv 8) (pe_op op_add (pe_dget (hu_of hr) (pv 4) (pv 7) (fun _ _ => rfl)) (pe_dget (hu_of hr) (pv 2) (pe_tup (pa_cons (pv 7) (pa_cons (pv 8) pa_nil))) (fun _ _ => rfl))) rfl)
    (pss_one (ps_expr (pe_bm PySem.F.plainAttrs_list PySem.F.slot_list_append PySem.F.type_list_append mt_append (pv 5) (pa_cons (pv 8) pa_nil)))))
      pss_nil)))
    (pss_one (ps_aug (i := 6) sc_spread.nd rfl (.inl rfl) pe_int ip_add)))))
    (pss_one (ps_ret (pe_callTy (tupOfK K) (by rfl) T.b_tuple (by decide +kernel) (pa_cons (pe_lc (own := [("field", 9)]) (g := (gName 9)) rfl sc_spread.nd (pi_range1 (by rfl) T.b_range (pa_cons (pe_ix (ixTK K) (pv 0) pe_int (fun _ _ => rfl)) pa_nil)) (blkOk_by (own := [("field", 9)]) (N := N_spread) (sc := defScope s_spread) (by decide +kernel)) (fun _ _ _ _ _ => (pg_name (i := 9) sc_spread.nd rfl (Or.inl rfl))) (fun _ _ _ _ _ => pts_nil) (fun _ _ _ _ _ => (pe_dget (hu_of hr) (pv 4) (pv 9) (fun _ _ => rfl)))) pa_nil))))))), ?_⟩
    obtain ⟨b, hT, hB⟩ := id hW
    obtain ⟨sa, skv, rfl, hsa, hsk⟩ := id hSt
    let G : Nat → Int := fun i => g i - g 0 + h0
    have hG0 : G 0 = h0 := by show g 0 - g 0 + h0 = h0; omega
    refine eg_call (ea_cons (ev_var rfl) ea_nil) (sp_nears_ok hW ok) H eH _ fun nr S1 H1 g1 hN => ?_
    intro fnd hfnd
    refine ev_c (v := .int 0) _ (Ex.refl _) _ fun H2 e2 => ev_var (i := 1) (v := .int h0) rfl _ (Ex.refl _) _ fun H3 e3 => ⟨e3 _ _ (e2 _ _ upd_same), [(kN 0, .int h0)], rfl, (by show 1 ≤ 15; decide), ?_⟩
    have g3 : Gr [] S H S1 H3 := (g1.trans (Gr.lay g1.i hfnd)).trans (Gr.of_ex ((Gr.lay (M := []) g1.i hfnd).i) (e2.trans e3))
    have hHf : H fnd = none := g1.fr eH hfnd
    have hSf : S1 fnd = none := g1.frS hfnd
    have hkv : mergeK [] [(kN 0, .int h0)] = [(kN 0, V.int h0)] := rfl
    rw [hkv]
    have g4 := g3.put (p := fnd) (u := .dK [(kN 0, .int h0)]) (.inl hHf) hSf
    have h4f : upd H3 fnd (.dK [(kN 0, V.int h0)]) fnd = some (.dK [(kN 0, .int h0)]) := upd_same
    generalize upd H3 fnd (.dK [(kN 0, V.int h0)]) = H4 at g4 h4f ⊢
    refine ⟨by show 1 ≤ sizeLine; decide, fun ln hln => ?_⟩
    have hne : fnd ≠ ln := fun z => by rw [z, hln] at h4f; cases h4f
    have g5 : Gr [] S H S1 (upd H4 ln (.lst [.int 0])) := g4.trans (Gr.lay g4.i hln)
    have hHl : H ln = none := g4.fr eH hln
    have hSl : S1 ln = none := g4.frS hln
    have h5f : upd H4 ln (.lst [.int 0]) fnd = some (.dK [(kN 0, .int h0)]) := by rw [upd_ne hne]; exact h4f
    have h5l : upd H4 ln (.lst [.int 0]) ln = some (.lst (nV [0])) := upd_same
    generalize upd H4 ln (.lst [.int 0]) = H5 at g5 h5f h5l ⊢
    refine ⟨by show 3 ≤ sizeLine; decide, fun tp htp => ?_⟩
    have g6 : Gr [] S H S1 (upd H5 tp (.tup [nr, .ref fnd, .ref ln])) := g5.trans (Gr.lay g5.i htp)
    refine ⟨tp, _, rfl, st_of upd_same, rfl, nr, _, rfl, .ref fnd, _, rfl, .ref ln, _, rfl, rfl, ?_⟩
    have h6f : upd H5 tp (.tup [nr, .ref fnd, .ref ln]) fnd = some (.dK [(kN 0, .int h0)]) := by rw [upd_ne (ne_of_none h5f htp)]; exact h5f
    have h6l : upd H5 tp (.tup [nr, .ref fnd, .ref ln]) ln = some (.lst (nV [0])) := by rw [upd_ne (ne_of_none h5l htp)]; exact h5l
    generalize upd H5 tp (.tup [nr, .ref fnd, .ref ln]) = H6 at g6 h6f h6l ⊢
    obtain ⟨rows, xss, ⟨an, en1, han⟩, hrows⟩ : ∃ rows xss, LstA S1 nr rows ∧ (Paired (fun x xs => LstA S1 x (nV xs)) rows xss ∧ xss.length = n ∧ ∀ (k : Nat) (xs : List Nat), xss[k]? = some xs → xs.Perm (nb es k)) := by
      obtain ⟨xss, ⟨rows, h1, h2⟩, h3, h4⟩ := hN
      exact ⟨rows, xss, h1, h2, h3, h4⟩
    obtain ⟨hrp, hxl, hxp⟩ := hrows
    subst en1
    have hsa1 : S1 sa = some (.dT skv) := g1.s _ _ hsa
    have F0 : FdV [(kN 0, V.int h0)] (updF (fun _ => none) 0 (some 0)) G 1 := ⟨fun z => by
      by_cases e : z = 0
      · subst e; rw [updF_same]; show some (V.int h0) = some (.int (G 0)); rw [hG0]
      · rw [updF_ne e, valV_neg (fun h => e (kN_inj.mp h).symm)]; rfl, Nat.le_refl _⟩
    refine q_asg (v := .int 0) ev_c (fun H7 e7 => ?_)
    show tSeq (tWhile _ _) _ _ [some v, some (.int h0), some (.ref sa), some (.ref an), some (.ref fnd), some (.ref ln), some (.int 0), none, none, none] H7
    refine q_while (fun m σ' H' => ∃ (d : Nat → Option Nat) (kvs : List (Key × V)) (line : List Nat) (at_ : Nat) (y z : Option V), σ' = [some v, some (.int h0), some (.ref sa), some (.ref an), some (.ref fnd), some (.ref ln), some (.int (at_ : Int)), y, z, none] ∧ Gr [] S H S1 H' ∧ H' fnd = some (.dK kvs) ∧ FdV kvs d G line.length ∧ H' ln = some (.lst (nV line)) ∧ BfsInv es n 0 d line at_ ∧ m = n - at_) n
      ⟨_, _, [0], 0, none, none, rfl, g6.trans (Gr.of_ex g6.i e7), e7 _ _ h6f, F0, e7 _ _ h6l, BfsInv.start hn0, rfl⟩ ?_
    rintro m σ' H' ⟨d, kvs, line, at_, y, z, rfl, gg, hf, hF, hl, I, rfl⟩
    refine ⟨decide ((at_ : Int) < ((nV line).length : Int)), et_test (ev_op (ev_var rfl) (ev_lenL (ev_var rfl) ⟨ln, rfl, hl⟩) rv_I0), fun hb H8 e8 => ?_, fun hb H8 e8 => ?_⟩
    · have hat : at_ < line.length := by
        have := of_decide_eq_true hb
        rw [nV_len] at this
        omega
      have hn := I.len
      obtain ⟨c, hc⟩ : ∃ c, line[at_]? = some c := ⟨line[at_], List.getElem?_eq_getElem hat⟩
      have hcn := I.lt c (List.mem_of_getElem? hc)
      obtain ⟨k, hk⟩ : ∃ k, d c = some k := Option.ne_none_iff_exists'.mp ((I.iff c).mpr (List.mem_of_getElem? hc))
      obtain ⟨xs, hxs⟩ : ∃ xs, xss[c]? = some xs := ⟨xss[c]'(by omega), List.getElem?_eq_getElem (by omega)⟩
      obtain ⟨row, hrow, ar, ear, har⟩ := pgetR hrp hxs
      subst ear
      have hperm := hxp c xs hxs
      have gg8 : Gr [] S H S1 H8 := gg.trans (Gr.of_ex gg.i e8)
      have hf8 := e8 _ _ hf
      have hl8 := e8 _ _ hl
      refine ⟨_, fun σ2 H2 hN => hN, ?_⟩
      show tSeq _ _ _ [some v, some (.int h0), some (.ref sa), some (.ref an), some (.ref fnd), some (.ref ln), some (.int (at_ : Int)), y, z, none] H8
      refine q_asg (v := .int (c : Int)) (ev_ixL (x := .ref ln) (j := at_) (xs := nV line) (ev_var rfl) (ev_var rfl) ⟨ln, rfl, hl8⟩ (nV_get hc)) (fun H9 e9 => ?_)
      have gg9 : Gr [] S H S1 H9 := gg8.trans (Gr.of_ex gg8.i e9)
      have hf9 := e9 _ _ hf8
      have hl9 := e9 _ _ hl8
      show tSeq _ _ _ [some v, some (.int h0), some (.ref sa), some (.ref an), some (.ref fnd), some (.ref ln), some (.int (at_ : Int)), some (.int (c : Int)), z, none] H9
      refine for_turns (n := (nV xs).length) (u := fun i σ' => σ'.set 8 (some ((nV xs).getD i .non))) (S := S1)
        (turns_listAt (a := ar) (xs := nV xs) (ev_ixL (x := .ref an) (j := c) (xs := rows) (ev_var rfl) (ev_var rfl) ⟨an, rfl, gg9.i _ _ han⟩ hrow) gg9.i (sq_of har) (fun i x H' σ' Q' hx _ kk => by
            have ex : (nV xs).getD i .non = x := by rw [List.getD_eq_getElem?_getD, hx]; rfl
            have := kk H' (Ex.refl _)
            rw [ex] at this
            exact this))
        (fun S3 i σ' H' => ∃ (d' : Nat → Option Nat) (kvs' : List (Key × V)) (line' : List Nat) (y : Option V), σ' = [some v, some (.int h0), some (.ref sa), some (.ref an), some (.ref fnd), some (.ref ln), some (.int (at_ : Int)), some (.int (c : Int)), y, none] ∧ Gr [] S H S3 H' ∧ (S3 fnd = none ∧ S3 ln = none ∧ Gr [] S H S1 H') ∧ H' fnd = some (.dK kvs') ∧ FdV kvs' d' G line'.length ∧ H' ln = some (.lst (nV line')) ∧ BfsInv es n 0 d' line' at_ ∧
          line'[at_]? = some c ∧ d' c = some k ∧ ∀ u ∈ xs.take i, d' u ≠ none)
        (fun S3 H3 g3 => ⟨d, kvs, line, z, rfl, gg9.trans g3, ⟨g3.f _ hSf (by rw [hf9]; simp), g3.f _ hSl (by rw [hl9]; simp), gg9.trans (Gr.of_ex gg9.i g3.ex)⟩, g3.ex _ _ hf9, hF, g3.ex _ _ hl9, I, hc, hk, fun u hu => by simp at hu⟩)
        (fun S3 i σ' H' ⟨_, _, _, _, _, g, _⟩ => g.i) ?_ ?_
      · rintro S3 i σ' H' hi ⟨d', kvs', line', y, rfl, gg3, ⟨hf3, hl3, ggS⟩, hfd, hF', hld, I', hc', hk', hx'⟩ H9 e9
        rw [nV_len] at hi
        have hxi : xs[i]? = some xs[i] := List.getElem?_eq_getElem hi
        have exi : (nV xs).getD i .non = .int (xs[i] : Int) := by rw [List.getD_eq_getElem?_getD, nV_get hxi]; rfl
        rw [exi]
        generalize hz : xs[i] = z at hxi
        have hadj : Adj es c z := mem_nb.mp (hperm.mem_iff.mp (List.mem_of_getElem? hxi))
        have hzn : z < n := by
          rcases hadj with q | q
          · exact (ok.ok _ q).2
          · have := ok.ok _ q; omega
        have hf9 := e9 _ _ hfd
        have hl9 := e9 _ _ hld
        have g39 := gg3.trans (Gr.of_ex gg3.i e9)
        have gS9 := ggS.trans (Gr.of_ex ggS.i e9)
        have hll := I'.len
        have hhi := ok.hi
        have tk : ∀ u ∈ xs.take (i + 1), u ∈ xs.take i ∨ u = z := fun u hu => by
          rw [List.take_add_one, hxi] at hu
          simpa using hu
        show tIfS _ _ _ _ [some v, some (.int h0), some (.ref sa), some (.ref an), some (.ref fnd), some (.ref ln), some (.int (at_ : Int)), some (.int (c : Int)), some (.int (z : Int)), none] H9
        refine s_when (b := !(valV kvs' (kN z)).isSome) (et_dnotin (a := fnd) (ev_var rfl) (ev_var rfl) hf9) (fun hb H10 e10 => ?_) (fun hb H10 e10 => ?_)
        · have hdz : d' z = none := by
            rw [hF'.v z] at hb
            cases q : d' z with
            | none => rfl
            | some x => rw [q] at hb; cases hb
          have hf10 := e10 _ _ hf9
          have hl10 := e10 _ _ hl9
          have g310 := g39.trans (Gr.of_ex g39.i e10)
          have gS10 := gS9.trans (Gr.of_ex gS9.i e10)
          have hcz : valV kvs' (kN c) = some (.int (G c)) := by rw [hF'.v c, hk']; rfl
          refine q_dputK (a := fnd) (kvs := kvs') (k := kN z) (v := .int (G z)) (ev_is (ev_op (x := .int (G c)) (y := .int (g z - g c)) (ev_dgetK (k := kN c) (ev_var rfl) (ev_var rfl) hf10 hcz) (ev_dgetT (a := sa) (k := kE c z) (ev_var rfl) (eu_tup (ea_cons (ev_var rfl) (ea_cons (ev_var rfl) ea_nil)) (by show 2 ≤ 100000; decide)) (gS10.i _ _ hsa1) (hsk c z hadj)) rv_I0) ?_) (ev_var rfl) (ev_var rfl) hf10 (by have := hF'.l; omega) (fun H11 e11 => ?_)
          · show V.int ((g c - g 0 + h0) + (g z - g c)) = .int (g z - g 0 + h0)
            congr 1; omega
          have g311 := (g310.trans (Gr.of_ex g310.i e11)).put (p := fnd) (u := .dK (putK kvs' (kN z) (.int (G z)))) (.inl hHf) hf3
          have gS11 := (gS10.trans (Gr.of_ex gS10.i e11)).put (p := fnd) (u := .dK (putK kvs' (kN z) (.int (G z)))) (.inl hHf) hSf
          refine s_app (l := ln) (xs := nV line') (v := .int (z : Int)) ?_ (ev_var rfl) (ev_var rfl) ?_ (fun H12 e12 => ?_)
          · rw [upd_ne (Ne.symm hne)]; exact e11 _ _ hl10
          · rw [nV_len]; omega
          · have I2 := I'.add hc' hk' hadj hzn hdz
            refine ⟨updF d' z (some (k + 1)), putK kvs' (kN z) (.int (G z)), line' ++ [z], _, rfl, (g311.trans (Gr.of_ex g311.i e12)).put (.inl hHl) hl3, ⟨hf3, hl3, (gS11.trans (Gr.of_ex gS11.i e12)).put (.inl hHl) hSl⟩, ?_, ?_, by rw [upd_same, nV_snoc], I2, ?_, ?_, fun u hu => ?_⟩
            · rw [upd_ne hne]; exact e12 _ _ upd_same
            · rw [List.length_append]; exact hF'.put z (k + 1)
            · rw [List.getElem?_append_left (by obtain ⟨h1, _⟩ := List.getElem?_eq_some_iff.mp hc'; exact h1)]; exact hc'
            · rw [updF_ne (fun e => by rw [e, hdz] at hk'; cases hk')]; exact hk'
            · by_cases e : u = z
              · subst e; rw [updF_same]; simp
              · rw [updF_ne e]
                exact (tk u hu).elim (hx' u) (fun q => absurd q e)
        · refine ⟨d', kvs', line', _, rfl, g39.trans (Gr.of_ex g39.i e10), ⟨hf3, hl3, gS9.trans (Gr.of_ex gS9.i e10)⟩, e10 _ _ hf9, hF', e10 _ _ hl9, I', hc', hk', fun u hu => ?_⟩
          rcases tk u hu with q | q
          · exact hx' u q
          · subst q
            intro z2
            rw [hF'.v u, z2] at hb
            cases hb
      · rintro S3 σ' H' ⟨d', kvs', line', y, rfl, gg3, ⟨hf3, hl3, ggS⟩, hfd, hF', hld, I', hc', hk', hx'⟩
        show tAug 6 _ _ _ [some v, some (.int h0), some (.ref sa), some (.ref an), some (.ref fnd), some (.ref ln), some (.int (at_ : Int)), some (.int (c : Int)), y, none] H'
        refine s_aug (a := (at_ : Int)) (b := 1) rfl ev_c (fun H9 e9 => ?_)
        rw [nV_len, List.take_length] at hx'
        refine ⟨n - (at_ + 1), by have := I.len; omega, d', kvs', line', at_ + 1, _, y, by rw [Int.natCast_add]; rfl, ggS.trans (Gr.of_ex ggS.i e9), e9 _ _ hfd, hF', e9 _ _ hld, I'.step hc' (fun u ha => hx' u (hperm.mem_iff.mpr (mem_nb.mpr ha))), rfl⟩
    · have hat : line.length ≤ at_ := by
        have := of_decide_eq_false hb
        rw [nV_len] at this
        omega
      obtain ⟨f', hf', hD⟩ := I.fin hC hat
      have gg8 := gg.trans (Gr.of_ex gg.i e8)
      have hf8 := e8 _ _ hf
      have gg9 := gg8.fix hHf hf8
      have hhi := ok.hi
      refine s_retG (S := upd S1 fnd (.dK kvs)) (P := fun r S' => LayV S' r n G) (EvG.imp (eg_tupOf (lc_map (n := n) (fun i => V.int (G i)) (turns_rng1 (j := 9) (ea_cons (ev_ixT (j := 0) (ev_var rfl) ev_c (hT.mono gg9.s) rfl) ea_nil) (by omega)) (fun i _ => set1_wipe _ _ _) (by omega) (fun i S2 hi e => ev_dgetK (a := fnd) (k := kN i) (ev_var rfl) (ev_var rfl) (e _ _ upd_same) (by rw [hF.v i, hf' i hi]; rfl)))) fun r S' _ hr => ?_) gg9.i fun r S3 H3 g3 p => q r S3 H3 (gg9.trans g3) p
      unfold LayV
      rw [iV_tab]; exact hr
theorem sp_spread_ok {S : Hp} {v st : V} {n : Nat} {es : List (Nat × Nat)} {h0 : Int} {g : Nat → Int} (hW : WebV S v n es) (ok : EdgesOk n es) (hC : Conn es n) (hn : 0 < n) (hS : StepsV S st es g) : SpG sp_spread ([v, .int h0, st] ++ []) S fun r S' => LayV S' r n fun i => g i - g 0 + h0 := fun H e Q E q => ⟨S, v, n, es, h0, st, g, rfl, e, hW, ok, hC, hn, hS, q⟩
end
end Tr
end
section
set_option Elab.async false
set_option linter.all false
set_option maxRecDepth 100000
set_option maxHeartbeats 4000000
namespace Tr
open PySem PySem.Spec PyProof.Rows L2 Evl
/-- the steps so far -/
structure StI (kvs : List (List Key × V)) (es : List (Nat × Nat)) (i : Nat) (h : Nat → Int) : Prop where
  v : ∀ a b x, valV kvs (kE a b) = some x → x = .int (h b - h a)
  m : ∀ j, j < i → ∀ e, es[j]? = some e → (valV kvs (kE e.1 e.2)).isSome = true ∧ (valV kvs (kE e.2 e.1)).isSome = true
  l : kvs.length ≤ 2 * i
theorem StI.put2 {kvs : List (List Key × V)} {es : List (Nat × Nat)} {i : Nat} {h : Nat → Int} (I : StI kvs es i h) {e : Nat × Nat} (he : es[i]? = some e) :
    StI (putK (putK kvs (kE e.1 e.2) (.int (h e.2 - h e.1))) (kE e.2 e.1) (.int (-(h e.2 - h e.1)))) es (i + 1) h := by
  refine ⟨fun a b x hx => ?_, fun j hj f hf => ?_, ?_⟩
  · rw [valV_put, valV_put] at hx
    by_cases q : kE a b = kE e.2 e.1
    · rw [if_pos q] at hx
      obtain ⟨rfl, rfl⟩ := kE_inj.mp q
      cases hx
      congr 1; omega
    · rw [if_neg q] at hx
      by_cases q2 : kE a b = kE e.1 e.2
      · rw [if_pos q2] at hx
        obtain ⟨rfl, rfl⟩ := kE_inj.mp q2
        cases hx; rfl
      · rw [if_neg q2] at hx; exact I.v a b x hx
  · have keep : ∀ k, (valV kvs k).isSome = true → (valV (putK (putK kvs (kE e.1 e.2) (.int (h e.2 - h e.1))) (kE e.2 e.1) (.int (-(h e.2 - h e.1)))) k).isSome = true := fun k hk => by
      rw [valV_put, valV_put]
      split
      · rfl
      · split
        · rfl
        · exact hk
    by_cases q : j = i
    · subst q
      rw [he] at hf; cases hf
      refine ⟨?_, ?_⟩
      · rw [valV_put, valV_put]
        split
        · rfl
        · rw [if_pos rfl]; rfl
      · rw [valV_put, if_pos rfl]; rfl
    · exact ⟨keep _ (I.m j (by omega) f hf).1, keep _ (I.m j (by omega) f hf).2⟩
  · have h1 := length_putK (putK kvs (kE e.1 e.2) (.int (h e.2 - h e.1))) (kE e.2 e.1) (.int (-(h e.2 - h e.1)))
    have h2 := length_putK kvs (kE e.1 e.2) (.int (h e.2 - h e.1))
    have := I.l
    omega
theorem absI_one {x : Int} (h : absI x = 1) : x = 1 ∨ x = -1 := by unfold absI at h; split at h <;> omega
theorem step_of {c : Nat → Nat} {h : Nat → Int} {e : Nat × Nat} (h1 : absI (h e.1 - h e.2) = 1) : sgn (c e.1 + c 0) * (if foldB c h e = true then 1 else -1) = h e.2 - h e.1 := by
  unfold foldB
  rcases absI_one h1 with q | q <;> rcases sgn_or (c e.1 + c 0) with z | z <;> rw [z]
  · rw [show h e.2 - h e.1 = -1 by omega]; decide
  · rw [show h e.2 - h e.1 = -1 by omega]; decide
  · rw [show h e.2 - h e.1 = 1 by omega]; decide
  · rw [show h e.2 - h e.1 = 1 by omega]; decide
theorem foldsL_get {es : List (Nat × Nat)} {c : Nat → Nat} {h : Nat → Int} {i : Nat} (hi : i < es.length) : (foldsL es c h).getD i false = foldB c h (es.getD i (0, 0)) := by
  unfold foldsL
  rw [List.getD_eq_getElem?_getD, List.getElem?_map, List.getD_eq_getElem?_getD, List.getElem?_eq_getElem hi]; rfl
theorem foldsL_len {es : List (Nat × Nat)} {c : Nat → Nat} {h : Nat → Int} : (foldsL es c h).length = es.length := List.length_map _
theorem foldsL_shift {es : List (Nat × Nat)} {c : Nat → Nat} {h : Nat → Int} (x : Int) : foldsL es c (fun i => h i + x) = foldsL es c h := by
  unfold foldsL
  refine List.map_congr_left fun e _ => ?_
  unfold foldB
  rw [show h e.2 + x - (h e.1 + x) = h e.2 - h e.1 by omega]
section
variable {P : Program} {w : World} {K : PySem.W.Frag} {mg : Str → Option Value} {base : Heap}
def sp_heights : Sp := fun vs H Q _ => ∃ (S : Hp) (v : V) (n : Nat) (es : List (Nat × Nat)) (c : Nat → Nat) (h : Nat → Int) (h0 : Int), vs = [v, .str (foldT (foldsL es c h)), .int h0] ∧ Ex S H ∧ WebV S v n es ∧ WebOk n es c ∧ (∀ e ∈ es, absI (h e.1 - h e.2) = 1) ∧
  RetG S H (fun r S' => LayV S' r n fun i => h i - h 0 + h0) Q
theorem sp_heights_ok {S : Hp} {v : V} {n : Nat} {es : List (Nat × Nat)} {c : Nat → Nat} {h : Nat → Int} {h0 : Int} (hW : WebV S v n es) (ok : WebOk n es c) (lo : ∀ e ∈ es, absI (h e.1 - h e.2) = 1) : SpG sp_heights ([v, .str (foldT (foldsL es c h)), .int h0] ++ []) S fun r S' => LayV S' r n fun i => h i - h 0 + h0 := fun H e Q E q => ⟨S, v, n, es, c, h, h0, rfl, e, hW, ok, lo, q⟩
theorem ok_heights_of (T : Tx K mg) : OkD P w K mg base 4 "heights_of" ["web", "text", "height"] sp_heights := by
  refine mk_heights_of T (fun vs H Q E h => ?_) (fun f cdv A outer s H vs Q E hr h => ?_)
  · obtain ⟨S, v, n, es, c, h, h0, rfl, _⟩ := h
    rfl
  · obtain ⟨S, v, n, es, c, h, h0, rfl, eH, hW, ok, lo, q⟩ := h
    refine ⟨_, (pss_cons (ps_par (i := 3) (j := 4) rfl sc_heights_of.nd rfl rfl (by decide) rfl rfl (pa_cons (pcall (ok_reach_of T) (hr.mono (by decide)) (pa_cons (pv 0) (pa_cons pe_int pa_nil))) (pa_cons pe_dnewT pa_nil)) (by rfl))
    (pss_cons (ps_for PassesOwn.never rfl (pi_zipTS (by rfl) T.b_zip (pa_cons (pe_ix (ixTK K) (pv 0) pe_int (fun _ _ => rfl)) (pa_cons (pv 1) pa_nil))) (pg_tup rfl (pgs_cons (pg_tup rfl (pgs_cons (pg_name (i := 5) sc_heights_of.nd rfl (Or.inl rfl)) (pgs_cons (pg_name (i := 6) sc_heights_of.nd rfl (Or.inl rfl)) pgs_nil))) (pgs_cons (pg_name (i := 7) sc_heights_of.nd rfl (Or.inl rfl)) pgs_nil)))
      (pss_cons (ps_dput (hu_of hr) (pv 4) (pe_tup (pa_cons (pv 5) (pa_cons (pv 6) pa_nil))) (pe_op op_mul (pcall (ok_sign_of T) (hr.mono (by decide)) (pa_cons (pv 3) (pa_cons (pv 5) pa_nil))) (pe_ifExp (pt_cmpR op_eq (pv 7) pe_str (nomark _)) pe_int (pe_un un_neg pe_int))) rfl)
    (pss_one (ps_dput (hu_of hr) (pv 4) (pe_tup (pa_cons (pv 6) (pa_cons (pv 5) pa_nil))) (pe_un un_neg (pe_dget (hu_of hr) (pv 4) (pe_tup (pa_cons (pv 5) (pa_cons (pv 6) pa_nil))) (fun _ _ => rfl))) rfl))))
    (pss_cons (ps_set (i := 8) sc_heights_of.nd rfl (.inl rfl) (pcall (ok_spread T) (hr.mono (by decide)) (pa_cons (pv 0) (pa_cons (pv 2) (pa_cons (pv 4) pa_nil)))))
    (pss_one (ps_ret (pe_ifExp (PW.pt (pw_and (pt_cmpR op_eq (pcall (ok_folds_of T) (hr.mono (by decide)) (pa_cons (pv 0) (pa_cons (pv 8) pa_nil))) (pv 1) (nomark _)) (pw_and1 (pt_val (pcall (ok_has_steps T) (hr.mono (by decide)) (pa_cons (pv 0) (pa_cons (pv 8) pa_nil))))))) (pv 8) pe_non)))))), ?_⟩
    obtain ⟨b, hT, hB⟩ := id hW
    have hfew := ok.form.few
    refine eg_call (ea_cons (ev_var rfl) (ea_cons ev_c ea_nil)) (sp_reach_ok (first := 0) hW ok.form.edges ok.conn ok.form.lo) H eH _ fun even S1 H1 g1 ⟨d, hd, hD⟩ => ?_
    intro st hst
    have hHs : H st = none := g1.fr eH hst
    have hSs : S1 st = none := g1.frS hst
    have g2 : Gr [] S H S1 (upd H1 st (.dT [])) := g1.trans (Gr.lay g1.i hst)
    have h2s : upd H1 st (.dT []) st = some (.dT []) := upd_same
    generalize upd H1 st (.dT []) = H2 at g2 h2s ⊢
    refine ⟨even, .ref st, rfl, ?_⟩
    have hpar := hD.par ok.col
    have hT1 := hT.mono g1.s
    have hB1 := hB.mono g1.s
    show tSeq _ _ _ [some v, some (.str (foldT (foldsL es c h))), some (.int h0), some even, some (.ref st), none, none, none, none] H2
    have ht := turns_hedges2 (K := K) (S := S1) (j := 5) (k := 6) (l := 7) (σ := [some v, some (.str (foldT (foldsL es c h))), some (.int h0), some even, some (.ref st), none, none, none, none]) (t1 := tOp (rIxT K) (tVar 0) (tC (.int 1))) (t2 := tVar 1) (ev_ixT (j := 1) (ev_var rfl) ev_c hT1 rfl) (ev_var rfl) hB1 foldsL_len
    refine for_turns (ht H2 g2.i) (fun S3 i σ' H' => ∃ (kvs : List (List Key × V)) (y1 y2 y3 : Option V), σ' = [some v, some (.str (foldT (foldsL es c h))), some (.int h0), some even, some (.ref st), y1, y2, y3, none] ∧ Ex S3 H' ∧ S3 st = none ∧ Gr [] S H S1 H' ∧ H' st = some (.dT kvs) ∧ StI kvs es i h)
      (fun S3 H3 g3 => ⟨[], none, none, none, rfl, g3.i, g3.f _ hSs (by rw [h2s]; simp), g2.trans (Gr.of_ex g2.i g3.ex), g3.ex _ _ h2s, ⟨fun a b x hx => (nomatch hx), fun j hj => absurd hj (by omega), Nat.zero_le _⟩⟩)
      (fun S3 i σ' H' ⟨_, _, _, _, _, x, _⟩ => x) ?_ ?_
    · rintro S3 i σ' H' hi ⟨kvs, y1, y2, y3, rfl, x3, h3s, gg, hst', I⟩ H4 e4
      have he : es[i]? = some (es.getD i (0, 0)) := by rw [List.getD_eq_getElem?_getD, List.getElem?_eq_getElem hi]; rfl
      rw [foldsL_get hi]
      have hm := es_getD hi
      generalize es.getD i (0, 0) = e at hm he ⊢
      have hok := ok.form.ok e hm
      have p1 := hpar e.1 (by omega)
      have hs : sgn (d e.1) = sgn (c e.1 + c 0) := sgn_mod (by omega)
      have gg4 := gg.trans (Gr.of_ex gg.i e4)
      have hst4 := e4 _ _ hst'
      show tSeq _ _ _ [some v, some (.str (foldT (foldsL es c h))), some (.int h0), some even, some (.ref st), some (.int (e.1 : Int)), some (.int (e.2 : Int)), some (.str (let1 (foldB c h e))), none] H4
      have hlen := I.l
      refine q_dputT (a := st) (kvs := kvs) (k := kE e.1 e.2) (v := .int (h e.2 - h e.1)) (ev_is (ev_op (x := .int (sgn (d e.1))) (y := .int (if foldB c h e = true then 1 else -1)) (ev_call (ea_cons (ev_var rfl) (ea_cons (ev_var rfl) ea_nil)) fun H3 e3 Q3 q3 _ => ⟨even, tabN n d, e.1, d e.1, rfl, (hd.mono gg4.i).mono e3, tabN_get (by omega), q3⟩) (ev_if (b := foldB c h e) (et_is (et_test (ev_op (x := .str (let1 (foldB c h e))) (y := .str (let1 true)) (ev_var rfl) (by rw [← let_M]; exact ev_c) (rv_eq rfl))) ?_) (fun hb => ?_) (fun hb => ?_)) (rv_I (.inr ?_))) ?_) (ev_var rfl) (eu_tup (ea_cons (ev_var rfl) (ea_cons (ev_var rfl) ea_nil)) (by show 2 ≤ 100000; decide)) hst4 (by omega) (fun H5 e5 => ?_)
      · generalize foldB c h e = y
        cases y <;> decide +kernel
      · rw [hb]; exact ev_c
      · rw [hb]; exact ev_un ev_c ru_neg
      · generalize foldB c h e = y
        cases y <;> decide
      · rw [hs, step_of (lo e hm)]
      have gg5 := (gg4.trans (Gr.of_ex gg4.i e5)).put (p := st) (u := .dT (putK kvs (kE e.1 e.2) (.int (h e.2 - h e.1)))) (.inl hHs) hSs
      have x5 := ((x3.trans e4).trans e5).mut (o := .dT (putK kvs (kE e.1 e.2) (.int (h e.2 - h e.1)))) h3s
      have h5s : upd H5 st (.dT (putK kvs (kE e.1 e.2) (.int (h e.2 - h e.1)))) st = some (.dT (putK kvs (kE e.1 e.2) (.int (h e.2 - h e.1)))) := upd_same
      generalize upd H5 st (.dT (putK kvs (kE e.1 e.2) (.int (h e.2 - h e.1)))) = H6 at gg5 x5 h5s ⊢
      refine s_dputT (a := st) (kvs := putK kvs (kE e.1 e.2) (.int (h e.2 - h e.1))) (k := kE e.2 e.1) (v := .int (-(h e.2 - h e.1))) (ev_un (ev_dgetT (a := st) (k := kE e.1 e.2) (v := .int (h e.2 - h e.1)) (ev_var rfl) (eu_tup (ea_cons (ev_var rfl) (ea_cons (ev_var rfl) ea_nil)) (by show 2 ≤ 100000; decide)) h5s (by rw [valV_put, if_pos rfl])) ru_neg) (ev_var rfl) (eu_tup (ea_cons (ev_var rfl) (ea_cons (ev_var rfl) ea_nil)) (by show 2 ≤ 100000; decide)) h5s (by have := length_putK kvs (kE e.1 e.2) (.int (h e.2 - h e.1)); omega) (fun H7 e7 => ?_)
      exact ⟨_, _, _, _, rfl, (x5.trans e7).mut h3s, h3s, (gg5.trans (Gr.of_ex gg5.i e7)).put (.inl hHs) hSs, upd_same, I.put2 he⟩
    · rintro S3 σ' H' ⟨kvs, y1, y2, y3, rfl, x3, h3s, gg, hst', I⟩
      have gg1 := gg.fix hHs hst'
      have hkey : ∀ u w, Adj es u w → valV kvs (kE u w) = some (.int (h w - h u)) := by
        have one : ∀ u w, (valV kvs (kE u w)).isSome = true → valV kvs (kE u w) = some (.int (h w - h u)) := fun u w hs => by
          obtain ⟨x, hx⟩ := Option.isSome_iff_exists.mp hs
          rw [hx, I.v u w x hx]
        intro u w ha
        rcases ha with ha | ha
        · obtain ⟨j, hj, ej⟩ := List.getElem_of_mem ha
          exact one u w (I.m j hj (u, w) (by rw [List.getElem?_eq_getElem hj, ej])).1
        · obtain ⟨j, hj, ej⟩ := List.getElem_of_mem ha
          exact one u w (I.m j hj (w, u) (by rw [List.getElem?_eq_getElem hj, ej])).2
      show tSeq _ _ _ [some v, some (.str (foldT (foldsL es c h))), some (.int h0), some even, some (.ref st), y1, y2, y3, none] H'
      refine q_asgG (S := upd S1 st (.dT kvs)) (P := fun r S' => LayV S' r n fun i => h i - h 0 + h0) (eg_call (ea_cons (ev_var rfl) (ea_cons (ev_var rfl) (ea_cons (ev_var rfl) ea_nil))) (sp_spread_ok (hW.mono gg1.s) ok.form.edges ok.conn ok.form.lo ⟨st, kvs, rfl, upd_same, hkey⟩)) gg1.i (fun r S4 H4 g4 hr4 => ?_)
      have g14 := gg1.trans g4
      have hfe : foldsL es c (fun i => h i - h 0 + h0) = foldsL es c h := by
        have := foldsL_shift (es := es) (c := c) (h := h) (h0 - h 0)
        rw [← this]
        congr 1; funext i; omega
      have hF : Ev (tCall sp_folds_of [] E0 (tCons (tVar 0) (tCons (tVar 8) tNil))) [some v, some (.str (foldT (foldsL es c h))), some (.int h0), some even, some (.ref st), y1, y2, y3, some r] S4 (.str (foldT (foldsL es c h))) := by
        have := ev_call (E := E0) (sp := sp_folds_of) (dvs := []) (σ := [some v, some (.str (foldT (foldsL es c h))), some (.int h0), some even, some (.ref st), y1, y2, y3, some r]) (ta := tCons (tVar 0) (tCons (tVar 8) tNil)) (ea_cons (ev_var rfl) (ea_cons (ev_var rfl) ea_nil)) (sp_folds_of_ok (hW.mono g14.s) ok hr4)
        rw [hfe] at this; exact this
      refine s_retG (S := S4) (P := fun r S' => LayV S' r n fun i => h i - h 0 + h0) (eg_if (b := true && true) (et_and (et_is (et_test (ev_op hF (ev_var rfl) (rv_eq rfl))) (decide_eq_true rfl)) (fun _ => et_B (ev_call (ea_cons (ev_var rfl) (ea_cons (ev_var rfl) ea_nil)) fun H5 e5 Q5 q5 _ => ⟨v, n, es, r, _, rfl, (hW.mono g14.s).mono e5, ok.form.edges, hr4.mono e5, fun e he => ?_, q5⟩))) (fun _ => EvG.of (v := r) (ev_var rfl) fun S' e' => hr4.mono e') (fun hb => nomatch hb)) g4.i fun r' S5 H5 g5 p => q r' S5 H5 (g14.trans g5) p
      show absI (h e.1 - h 0 + h0 - (h e.2 - h 0 + h0)) = 1
      rw [show h e.1 - h 0 + h0 - (h e.2 - h 0 + h0) = h e.1 - h e.2 by omega]
      exact lo e he
end
end Tr
end
section
set_option Elab.async false
set_option linter.all false
set_option maxRecDepth 100000
set_option maxHeartbeats 4000000
namespace Tr
open PySem PySem.Spec PyProof.Rows L2 Evl
def rIsN : R2 := fun x y H Q => y = .non ∧ Q (.bl (decide (x = .non))) H
def rNotN : R2 := fun x y H Q => y = .non ∧ Q (.bl (!decide (x = .non))) H
theorem op_isN1 {X : Cx} : OpR X (compareOp .Is) rIsN := op_isN
theorem op_notN1 {X : Cx} : OpR X (compareOp .IsNot) rNotN := op_notN
theorem rv_isN {x : V} {H : Hp} : RV rIsN x .non H (.bl (decide (x = .non))) := fun H1 _ Q q => ⟨rfl, q H1 (Ex.refl H1)⟩
theorem rv_notN {x : V} {H : Hp} : RV rNotN x .non H (.bl (!decide (x = .non))) := fun H1 _ Q q => ⟨rfl, q H1 (Ex.refl H1)⟩
theorem sumS_add {n : Nat} {D : Nat → Int} {k t : Int} : sumS ((List.range n).map fun i => D i + k) (t + k) = sumS ((List.range n).map D) t := by
  unfold sumS
  rw [List.map_map, List.map_map]
  congr 1
  refine List.map_congr_left fun i _ => ?_
  show absI (D i + k - (t + k)) = absI (D i - t)
  congr 1; omega
theorem IsMed.shift {n : Nat} {D : Nat → Int} {t : Int} (k : Int) (h : IsMed n D t) : IsMed n (fun i => D i + k) (t + k) where
  at_ := let ⟨i, hi, e⟩ := h.at_; ⟨i, hi, by rw [e]⟩
  min := fun s => by
    have := h.min (s - k)
    rw [sumS_add]
    have e := sumS_add (n := n) (D := D) (k := k) (t := s - k)
    rw [show s - k + k = s by omega] at e
    rw [e]; exact this
  least := fun s hs => by
    have := h.least (s - k) (by omega)
    rw [sumS_add]
    have e := sumS_add (n := n) (D := D) (k := k) (t := s - k)
    rw [show s - k + k = s by omega] at e
    rw [e]; exact this
section
variable {P : Program} {w : World} {K : PySem.W.Frag} {mg : Str → Option Value} {base : Heap}
def sp_fewest : Sp := fun vs H Q _ => ∃ (v : V) (n : Nat) (es : List (Nat × Nat)) (c : Nat → Nat) (h g : Nat → Int), vs = [v, .str (foldT (foldsL es c h)), .str (foldT (foldsL es c g))] ∧ WebV H v n es ∧ WebOk n es c ∧ (∀ e ∈ es, absI (h e.1 - h e.2) = 1) ∧ (∀ e ∈ es, absI (g e.1 - g e.2) = 1) ∧
  ∀ t, IsMed n (fun i => h i - g i) t → RetV (.int ((sumS (difS n h g) t).fdiv 2)) H Q
theorem sp_fewest_ok {S : Hp} {v : V} {n : Nat} {es : List (Nat × Nat)} {c : Nat → Nat} {h g : Nat → Int} {t : Int} (hW : WebV S v n es) (ok : WebOk n es c) (lo : ∀ e ∈ es, absI (h e.1 - h e.2) = 1) (mo : ∀ e ∈ es, absI (g e.1 - g e.2) = 1) (ht : IsMed n (fun i => h i - g i) t) : SpV sp_fewest ([v, .str (foldT (foldsL es c h)), .str (foldT (foldsL es c g))] ++ []) S (.int ((sumS (difS n h g) t).fdiv 2)) :=
  fun H e Q q _ => ⟨v, n, es, c, h, g, rfl, hW.mono e, ok, lo, mo, fun t' ht' => by rw [ht'.uniq ht]; exact q⟩
theorem ok_fewest_turns (T : Tx K mg) : OkD P w K mg base 6 "fewest_turns" ["web", "one", "other"] sp_fewest := by
  refine mk_fewest_turns T (fun vs H Q E h => ?_) (fun f cdv A outer s H vs Q E hr h => ?_)
  · obtain ⟨v, n, es, c, h, g, rfl, _⟩ := h
    rfl
  · obtain ⟨v, n, es, c, h, g, rfl, hW, ok, lo, mo, q⟩ := h
    refine ⟨_, (pss_cons (ps_expr (pcall (ok_need_web T) (hr.mono (by decide)) (pa_cons (pv 0) pa_nil)))
    (pss_cons (ps_expr (pcall (ok_need_folds T) (hr.mono (by decide)) (pa_cons (pv 0) (pa_cons (pv 1) pa_nil))))
    (pss_cons (ps_expr (pcall (ok_need_folds T) (hr.mono (by decide)) (pa_cons (pv 0) (pa_cons (pv 2) pa_nil))))
    (pss_cons (ps_par (i := 3) (j := 4) rfl sc_fewest_turns.nd rfl rfl (by decide) rfl rfl (pa_cons (pcall (ok_heights_of T) (hr.mono (by decide)) (pa_cons (pv 0) (pa_cons (pv 1) (pa_cons pe_int pa_nil)))) (pa_cons (pcall (ok_heights_of T) (hr.mono (by decide)) (pa_cons (pv 0) (pa_cons (pv 2) (pa_cons pe_int pa_nil)))) pa_nil)) (by rfl))
    (pss_cons (ps_if (PW.pt (pw_or (pt_cmpR op_isN1 (pv 3) pe_non (nomark _)) (pw_or1 (pt_cmpR op_isN1 (pv 4) pe_non (nomark _)))))
      (pss_one ps_never)
      pss_nil)
    (pss_one (ps_ret (pe_ix (ixTK K) (pcall (ok_best_shift_of T) (hr.mono (by decide)) (pa_cons (pv 3) (pa_cons (pv 4) pa_nil))) pe_int (fun _ _ => rfl))))))))), ?_⟩
    refine q_drop (ev_call (ea_cons (ev_var rfl) ea_nil) (sp_web_ok hW ok)) (fun H1 e1 => ?_)
    refine q_drop (ev_call (ea_cons (ev_var rfl) (ea_cons (ev_var rfl) ea_nil)) (sp_need_folds_ok (hW.mono e1) ok.form.edges foldsL_len)) (fun H2 e2 => ?_)
    have e02 := e1.trans e2
    refine q_drop (ev_call (ea_cons (ev_var rfl) (ea_cons (ev_var rfl) ea_nil)) (sp_need_folds_ok (hW.mono e02) ok.form.edges foldsL_len)) (fun H3 e3 => ?_)
    have e03 := e02.trans e3
    have hW3 := hW.mono e03
    refine eg_call (ea_cons (ev_var rfl) (ea_cons (ev_var rfl) (ea_cons ev_c ea_nil))) (sp_heights_ok (h0 := 0) hW3 ok lo) H3 (Ex.refl H3) _ fun fi S4 H4 g4 hf => ?_
    refine eg_call (ea_cons (ev_var rfl) (ea_cons (ev_var rfl) (ea_cons ev_c ea_nil))) (sp_heights_ok (h0 := 0) (hW3.mono g4.s) ok mo) H4 g4.i _ fun se S5 H5 g5 hs => ?_
    refine ⟨fi, se, rfl, ?_⟩
    have hf5 := hf.mono g5.s
    obtain ⟨af, ef, haf⟩ := id hf5
    obtain ⟨as, es2, has⟩ := id hs
    subst ef es2
    show tSeq _ _ _ [some v, some (.str (foldT (foldsL es c h))), some (.str (foldT (foldsL es c g))), some (.ref af), some (.ref as)] H5
    refine q_when (b := decide (V.ref af = V.non) || decide (V.ref as = V.non)) (et_or (et_test (ev_op (x := .ref af) (y := .non) (ev_var rfl) ev_c rv_isN)) (fun _ => et_test (ev_op (x := .ref as) (y := .non) (ev_var rfl) ev_c rv_isN))) (fun hb => by simp at hb) (fun _ H6 e6 => ?_)
    have g35 := g4.trans g5
    refine s_retG (S := S5) (P := fun r _ => ∃ t, IsMed n (fun i => h i - g i) t ∧ r = .int ((sumS (difS n h g) t).fdiv 2)) (ev_ixTG' (R := fun r => ∃ t, IsMed n (fun i => h i - g i) t ∧ r = .int ((sumS (difS n h g) t).fdiv 2)) (j := 0) (eg_call (ea_cons (ev_var rfl) (ea_cons (ev_var rfl) ea_nil)) (sp_best_ok ok.form.lo ok.form.hi hf5 hs)) (fun S1 _ => ev_c) (fun x S1 _ ⟨t, ht, hx⟩ => ⟨_, _, hx, rfl, t + (h 0 - g 0), ?_, ?_⟩)) (g5.i.trans e6) (fun r S7 H7 g7 ⟨t, ht, er⟩ => ?_)
    · have := ht.shift (h 0 - g 0)
      have e : (fun i => h i - h 0 + 0 - (g i - g 0 + 0) + (h 0 - g 0)) = fun i => h i - g i := by funext i; omega
      rw [← e]; exact this
    · have e := sumS_add (n := n) (D := fun i => h i - h 0 + 0 - (g i - g 0 + 0)) (k := h 0 - g 0) (t := t)
      congr 2
      show sumS ((List.range n).map fun i => h i - h 0 + 0 - (g i - g 0 + 0)) t = _
      rw [← e]
      unfold difS
      congr 2; funext i
      show h i - h 0 + 0 - (g i - g 0 + 0) + (h 0 - g 0) = h i - g i
      omega
    · rw [er]; exact q t ht H7 (e03.trans ((g35.ex.trans e6).trans g7.ex))
end
end Tr
end
section
set_option Elab.async false
set_option linter.all false
set_option maxRecDepth 100000
set_option maxHeartbeats 4000000
namespace Tr
open PySem PySem.Spec PyProof.Rows L2 Evl
/-! ### the row of draws -/
def RowAt (H : Hp) (r a : Addr) : Prop := ∃ c g m : Int, H r = some (.lst [.ref a, .int c, .int g, .int m]) ∧ 0 ≤ c
/-- the row at r over the script at a -/
structure Row (K : PySem.W.Frag) (S H : Hp) (r a : Addr) (ns : List Int) : Prop where
  ex : Ex S H
  no : S r = none
  sc : SqL K S a (iV ns)
  at_ : RowAt H r a
section
variable {K : PySem.W.Frag} {σ : L2.St} {S H S1 H1 : Hp} {r a : Addr} {ns : List Int} {te ta tb : TE} {D : Ends} {tz : TS}
theorem Row.ne (R : Row K S H r a ns) : H r ≠ none := by
  obtain ⟨c, g, m, h, _⟩ := R.at_
  rw [h]; simp
theorem RowAt.ex (e : Ex H H1) (h : RowAt H r a) : RowAt H1 r a := let ⟨c, g, m, h1, h2⟩ := h; ⟨c, g, m, e _ _ h1, h2⟩
theorem Row.next (R : Row K S H r a ns) (g : Gr [r] S H S1 H1) (h : RowAt H1 r a) : Row K S1 H1 r a ns := ⟨g.i, g.f r R.no R.ne, ex_l g.s R.sc, h⟩
theorem Row.grow (R : Row K S H r a ns) (g : Gr [] S H S1 H1) : Row K S1 H1 r a ns := R.next (g.more (by simp)) (R.at_.ex g.ex)
theorem Row.up (R : Row K S H r a ns) (e : Ex H H1) : Row K S H1 r a ns := ⟨R.ex.trans e, R.no, R.sc, R.at_.ex e⟩
/-- what an expression gives that may draw -/
def EvR (K : PySem.W.Frag) (te : TE) (σ : L2.St) (S H : Hp) (r a : Addr) (ns : List Int) (P : V → Hp → Prop) : Prop := ∀ Q : VK, (∀ v S1 H1, Gr [r] S H S1 H1 → Row K S1 H1 r a ns → P v S1 → Q v H1) → te σ H Q
def SpR (K : PySem.W.Frag) (sp : Sp) (vs : List V) (S H : Hp) (r a : Addr) (ns : List Int) (P : V → Hp → Prop) : Prop := ∀ (Q : VK) (E : XK), (∀ v S1 H1, Gr [r] S H S1 H1 → Row K S1 H1 r a ns → P v S1 → Q v H1) → sp vs H Q E
def RetR (K : PySem.W.Frag) (S H : Hp) (r a : Addr) (ns : List Int) (P : V → Hp → Prop) (Q : VK) : Prop := ∀ v S1 H1, Gr [r] S H S1 H1 → Row K S1 H1 r a ns → P v S1 → Q v H1
theorem er_call {sp : Sp} {vs : List V} {E : XK} {ta : TA} {P : V → Hp → Prop} (R : Row K S H r a ns) (h : EvA ta σ H vs) (hs : ∀ H1, Ex H H1 → Row K S H1 r a ns → SpR K sp (vs ++ []) S H1 r a ns P) : EvR K (tCall sp [] E ta) σ S H r a ns P := fun Q q =>
  h H (Ex.refl H) _ fun H1 e1 => hs H1 e1 (R.up e1) Q E fun v S2 H2 g R2 p => q v S2 H2 ((Gr.of_ex R.ex e1).trans g) R2 p
theorem modN (x : Int) {many : Nat} (h : 0 < many) : ∃ j : Nat, x.fmod (many : Int) = (j : Int) ∧ j < many := by
  have h1 := Int.emod_nonneg x (b := (many : Int)) (by omega)
  have h2 := Int.emod_lt_of_pos x (b := (many : Int)) (by omega)
  rw [Int.fmod_eq_emod_of_nonneg _ (by omega)]
  exact ⟨(x % (many : Int)).toNat, by omega, by omega⟩
theorem ev_row {c g m : Int} {j : Nat} {v : V} (h : H r = some (.lst [.ref a, .int c, .int g, .int m])) (hj : [V.ref a, .int c, .int g, .int m][j]? = some v) (ha : Ev ta σ H (.ref r)) (hb : Ev tb σ H (.int (j : Int))) : Ev (tOp (rIxL K) ta tb) σ H v := ev_ixL ha hb ⟨r, rfl, h⟩ hj
end
section
variable {P : Program} {w : World} {K : PySem.W.Frag} {mg : Str → Option Value} {base : Heap}
def sp_taken (K : PySem.W.Frag) : Sp := fun vs H Q _ => ∃ (S : Hp) (r a : Addr) (ns : List Int) (many : Nat), vs = [.ref r, .int (many : Int)] ∧ Row K S H r a ns ∧ 0 < many ∧ many ≤ 1000000 ∧ RetR K S H r a ns (fun v _ => ∃ j : Nat, v = .int (j : Int) ∧ j < many) Q
theorem sp_taken_ok {S H : Hp} {r a : Addr} {ns : List Int} {many : Nat} (R : Row K S H r a ns) (h1 : 0 < many) (h2 : many ≤ 1000000) : SpR K (sp_taken K) ([.ref r, .int (many : Int)] ++ []) S H r a ns (fun v _ => ∃ j : Nat, v = .int (j : Int) ∧ j < many) := fun Q E q => ⟨S, r, a, ns, many, rfl, R, h1, h2, q⟩
theorem ok__law_taken (T : Tx K mg) : OkD P w K mg base 1 "_law_taken" ["_law_row", "_law_many"] (sp_taken K) := by
  refine mk__law_taken T (fun vs H Q E h => ?_) (fun f cdv A outer s H vs Q E hr h => ?_)
  · obtain ⟨S, r, a, ns, many, rfl, _⟩ := h
    rfl
  · obtain ⟨S, r, a, ns, many, rfl, R, h1, h2, q⟩ := h
    refine ⟨_, (pss_cons (ps_if (pt_cmpR op_gt (pe_ix (ixLK K) (pv 0) pe_int (fun _ _ => rfl)) pe_int (nomark _))
      (pss_cons (ps_set (i := 2) sc__law_taken.nd rfl (.inl rfl) (pe_op op_modN (pe_callTy call_int1 (by rfl) T.b_int (by decide +kernel) (pa_cons (pe_ix (ixLK K) (pv 0) pe_int (fun _ _ => rfl)) pa_nil)) (pv 1)))
    (pss_cons (ps_asg (pe_op op_fdivN (pe_ix (ixLK K) (pv 0) pe_int (fun _ _ => rfl)) (pv 1)) (pg_sub (pv 0) pe_int set_list))
    (pss_one (ps_ret (pv 2)))))
      pss_nil)
    (pss_cons (ps_asg (pe_op op_add (pe_ix (ixLK K) (pv 0) pe_int (fun _ _ => rfl)) pe_int) (pg_sub (pv 0) pe_int set_list))
    (pss_cons (ps_if (pt_cmpR op_gt (pe_ix (ixLK K) (pv 0) pe_int (fun _ _ => rfl)) (pe_callB (lenK K) (by rfl) T.b_len (by decide +kernel) (pa_cons (pe_ix (ixLK K) (pv 0) pe_int (fun _ _ => rfl)) pa_nil)) (nomark _))
      (pss_cons (ps_asg (pe_op op_modN (pe_callTy call_int1 (by rfl) T.b_int (by decide +kernel) (pa_cons (pe_op op_add (pe_op op_mul (pe_ix (ixLK K) (pv 0) pe_int (fun _ _ => rfl)) pe_int) pe_int) pa_nil)) pe_int) (pg_sub (pv 0) pe_int set_list))
    (pss_one (ps_ret (pe_op op_modN (pe_callTy call_int1 (by rfl) T.b_int (by decide +kernel) (pa_cons (pe_op op_fdivN (pe_ix (ixLK K) (pv 0) pe_int (fun _ _ => rfl)) pe_int) pa_nil)) (pv 1)))))
      pss_nil)
    (pss_cons (ps_set (i := 3) sc__law_taken.nd rfl (.inl rfl) (pe_ix (ixLK K) (pe_ix (ixLK K) (pv 0) pe_int (fun _ _ => rfl)) (pe_op op_sub (pe_ix (ixLK K) (pv 0) pe_int (fun _ _ => rfl)) pe_int) (fun _ _ => rfl)))
    (pss_cons (ps_asg (pe_op op_modN (pe_callTy call_int1 (by rfl) T.b_int (by decide +kernel) (pa_cons (pe_op op_add (pe_op op_add (pe_op op_mul (pe_ix (ixLK K) (pv 0) pe_int (fun _ _ => rfl)) pe_int) (pv 3)) pe_int) pa_nil)) pe_int) (pg_sub (pv 0) pe_int set_list))
    (pss_cons (ps_if (pt_cmpR op_ge (pv 3) (pe_op op_pow pe_int pe_int) (nomark _))
      (pss_one (ps_asg (pe_op op_fdivN (pv 3) (pv 1)) (pg_sub (pv 0) pe_int set_list)))
      pss_nil)
    (pss_one (ps_ret (pe_op op_modN (pe_callTy call_int1 (by rfl) T.b_int (by decide +kernel) (pa_cons (pv 3) pa_nil)) (pv 1)))))))))), ?_⟩
    obtain ⟨c, g, m, hR, hc⟩ := R.at_
    have hmN : ∀ x : Int, (fun i j : Int => j ≠ 0) x (many : Int) := fun x => by show (many : Int) ≠ 0; omega
    have hdN : ∀ x : Int, CDivN x (many : Int) := fun x => ⟨by omega, by omega⟩
    refine q_when (b := decide (0 < m)) (et_test (ev_op (x := .int m) (y := .int 0) (ev_row (j := 3) hR rfl (ev_var rfl) ev_c) ev_c rv_I0)) (fun hb H1 e1 => ?_) (fun hb H1 e1 => ?_)
    · have hR1 := e1 _ _ hR
      obtain ⟨j, ej, hj⟩ := modN m h1
      refine q_asg (v := .int (j : Int)) (ev_is (ev_op (x := .int m) (y := .int (many : Int)) (ev_cb (z := .int m) (ea_cons (ev_row (j := 3) hR1 rfl (ev_var rfl) ev_c) ea_nil) fun H2 e2 Q2 q2 => .inl ⟨m, rfl, q2 H2 (Ex.refl H2)⟩) (ev_var rfl) (rv_I (C := fun _ j => j ≠ 0) (by show (many : Int) ≠ 0; omega))) (by rw [ej])) (fun H2 e2 => ?_)
      have hR2 := e2 _ _ hR1
      refine q_setL (l := r) (xs := [.ref a, .int c, .int g, .int m]) (j := 3) (v := .int (m.fdiv (many : Int))) hR2 (ev_op (ev_row (j := 3) hR2 rfl (ev_var rfl) ev_c) (ev_var rfl) (rv_I (hdN m))) (ev_var rfl) ev_c (by show 3 < 4; decide) (fun H3 e3 => ?_)
      have g3 : Gr [r] S H S (upd H3 r (.lst [.ref a, .int c, .int g, .int (m.fdiv (many : Int))])) := (Gr.of_ex R.ex ((e1.trans e2).trans e3)).put (.inr (by simp)) R.no
      refine s_ret (v := .int (j : Int)) (ev_var rfl) (fun H4 e4 => ?_)
      have g4 := g3.trans (Gr.of_ex g3.i e4)
      have hat : RowAt H4 r a := ⟨c, g, m.fdiv (many : Int), e4 _ _ upd_same, hc⟩
      exact q _ S H4 g4 (R.next g4 hat) ⟨j, rfl, hj⟩
    · have hR1 := e1 _ _ hR
      refine q_setL (l := r) (xs := [.ref a, .int c, .int g, .int m]) (j := 1) (v := .int (c + 1)) hR1 (ev_op (ev_row (j := 1) hR1 rfl (ev_var rfl) ev_c) ev_c rv_I0) (ev_var rfl) ev_c (by show 1 < 4; decide) (fun H2 e2 => ?_)
      have g2 : Gr [r] S H S (upd H2 r (.lst [.ref a, .int (c + 1), .int g, .int m])) := (Gr.of_ex R.ex (e1.trans e2)).put (.inr (by simp)) R.no
      have hR3 : upd H2 r (.lst [.ref a, .int (c + 1), .int g, .int m]) r = some (.lst [.ref a, .int (c + 1), .int g, .int m]) := upd_same
      show tSeq _ _ _ [some (.ref r), some (.int (many : Int)), none, none] (upd H2 r (.lst [.ref a, .int (c + 1), .int g, .int m]))
      generalize upd H2 r (.lst [.ref a, .int (c + 1), .int g, .int m]) = H3 at g2 hR3 ⊢
      have hsc : SqL K H3 a (iV ns) := ex_l g2.i R.sc
      have hlen : (iV ns).length = ns.length := iV_len
      refine q_when (b := decide (((iV ns).length : Int) < c + 1)) (et_test (ev_op (x := .int (c + 1)) (y := .int ((iV ns).length : Int)) (ev_row (j := 1) hR3 rfl (ev_var rfl) ev_c) (ev_cb (ea_cons (ev_row (j := 0) hR3 rfl (ev_var rfl) ev_c) ea_nil) fun H4 e4 Q4 q4 => ⟨a, iV ns, rfl, .inl (ex_l e4 hsc), q4 H4 (Ex.refl H4)⟩) rv_I0)) (fun hb H4 e4 => ?_) (fun hb2 H4 e4 => ?_)
      · have hR4 := e4 _ _ hR3
        refine q_setL (l := r) (xs := [.ref a, .int (c + 1), .int g, .int m]) (j := 2) (v := .int ((g * 48271 + 11).fmod 2147483647)) hR4 (ev_op (ev_cb (z := .int (g * 48271 + 11)) (ea_cons (ev_op (ev_op (ev_row (j := 2) hR4 rfl (ev_var rfl) ev_c) ev_c (rv_I (.inr (by decide)))) ev_c rv_I0) ea_nil) fun H5 e5 Q5 q5 => .inl ⟨_, rfl, q5 H5 (Ex.refl H5)⟩) ev_c (rv_I (by decide))) (ev_var rfl) ev_c (by show 2 < 4; decide) (fun H5 e5 => ?_)
        have g5 : Gr [r] S H S (upd H5 r (.lst [.ref a, .int (c + 1), .int ((g * 48271 + 11).fmod 2147483647), .int m])) := (g2.trans (Gr.of_ex g2.i (e4.trans e5))).put (.inr (by simp)) R.no
        have hR5 : upd H5 r (.lst [.ref a, .int (c + 1), .int ((g * 48271 + 11).fmod 2147483647), .int m]) r = some (.lst [.ref a, .int (c + 1), .int ((g * 48271 + 11).fmod 2147483647), .int m]) := upd_same
        show tRet _ _ [some (.ref r), some (.int (many : Int)), none, none] (upd H5 r (.lst [.ref a, .int (c + 1), .int ((g * 48271 + 11).fmod 2147483647), .int m]))
        generalize (g * 48271 + 11).fmod 2147483647 = g' at g5 hR5 ⊢
        generalize upd H5 r (.lst [.ref a, .int (c + 1), .int g', .int m]) = H6 at g5 hR5 ⊢
        obtain ⟨j, ej, hj⟩ := modN (g'.fdiv 7) h1
        refine s_ret (v := .int (j : Int)) (ev_is (ev_op (x := .int (g'.fdiv 7)) (y := .int (many : Int)) (ev_cb (z := .int (g'.fdiv 7)) (ea_cons (ev_op (ev_row (j := 2) hR5 rfl (ev_var rfl) ev_c) ev_c (rv_I ⟨by decide, by decide⟩)) ea_nil) fun H6 e6 Q6 q6 => .inl ⟨_, rfl, q6 H6 (Ex.refl H6)⟩) (ev_var rfl) (rv_I (C := fun _ j => j ≠ 0) (by show (many : Int) ≠ 0; omega))) (by rw [ej])) (fun H6 e6 => ?_)
        have g6 := g5.trans (Gr.of_ex g5.i e6)
        exact q _ S H6 g6 (R.next g6 ⟨c + 1, g', m, e6 _ _ hR5, by omega⟩) ⟨j, rfl, hj⟩
      · have hR4 := e4 _ _ hR3
        have hcn : c.toNat < ns.length := by
          have := of_decide_eq_false hb2
          rw [hlen] at this
          omega
        obtain ⟨x, hx⟩ : ∃ x, ns[c.toNat]? = some x := ⟨ns[c.toNat], List.getElem?_eq_getElem hcn⟩
        have hsc4 : SqL K H4 a (iV ns) := ex_l e4 hsc
        refine q_asg (v := .int x) (ev_op (x := .ref a) (y := .int (c + 1 - 1)) (ev_row (j := 0) hR4 rfl (ev_var rfl) ev_c) (ev_op (ev_row (j := 1) hR4 rfl (ev_var rfl) ev_c) ev_c rv_I0) (rv_ixL hsc4 (by
          have e : c + 1 - 1 = ((c.toNat : Nat) : Int) := by omega
          rw [e]; exact atI_of (iV_get hx)))) (fun H5 e5 => ?_)
        have hR5 := e5 _ _ hR4
        refine q_setL (l := r) (xs := [.ref a, .int (c + 1), .int g, .int m]) (j := 2) (v := .int ((g * 48271 + x + 11).fmod 2147483647)) hR5 (ev_op (ev_cb (z := .int (g * 48271 + x + 11)) (ea_cons (ev_op (ev_op (ev_op (ev_row (j := 2) hR5 rfl (ev_var rfl) ev_c) ev_c (rv_I (.inr (by decide)))) (ev_var rfl) rv_I0) ev_c rv_I0) ea_nil) fun H5 e5 Q5 q5 => .inl ⟨_, rfl, q5 H5 (Ex.refl H5)⟩) ev_c (rv_I (by decide))) (ev_var rfl) ev_c (by show 2 < 4; decide) (fun H6 e6 => ?_)
        have g6 : Gr [r] S H S (upd H6 r (.lst [.ref a, .int (c + 1), .int ((g * 48271 + x + 11).fmod 2147483647), .int m])) := (g2.trans (Gr.of_ex g2.i ((e4.trans e5).trans e6))).put (.inr (by simp)) R.no
        have hR6 : upd H6 r (.lst [.ref a, .int (c + 1), .int ((g * 48271 + x + 11).fmod 2147483647), .int m]) r = some (.lst [.ref a, .int (c + 1), .int ((g * 48271 + x + 11).fmod 2147483647), .int m]) := upd_same
        refine (fun H7 (g6 : Gr [r] S H S H7) (hR6 : H7 r = some (.lst [.ref a, .int (c + 1), .int ((g * 48271 + x + 11).fmod 2147483647), .int m])) => ?_ : ∀ H7, Gr [r] S H S H7 → H7 r = some (.lst [.ref a, .int (c + 1), .int ((g * 48271 + x + 11).fmod 2147483647), .int m]) → tSeq _ _ _ [some (.ref r), some (.int (many : Int)), none, some (.int x)] H7) _ g6 hR6
        generalize (g * 48271 + x + 11).fmod 2147483647 = g' at hR6
        have fin : ∀ H8 m', Gr [r] S H S H8 → H8 r = some (.lst [.ref a, .int (c + 1), .int g', .int m']) → tRet (tOp (rI (fun _ j => j ≠ 0) fun i j => .int (i.fmod j)) (tCB (fun xs H Q => (∃ i, xs = [.int i] ∧ Q (.int i) H) ∨ ∃ k, xs = [.bl k] ∧ Q (.int (if k then 1 else 0)) H) (tCons (tVar 3) tNil)) (tVar 1)) { nx := fun _ H' => Q .non H', rt := Q } [some (.ref r), some (.int (many : Int)), none, some (.int x)] H8 := fun H8 m' g8 hR8 => by
          obtain ⟨j, ej, hj⟩ := modN x h1
          refine s_ret (v := .int (j : Int)) (ev_is (ev_op (x := .int x) (y := .int (many : Int)) (ev_cb (z := .int x) (ea_cons (ev_var rfl) ea_nil) fun H6 e6 Q6 q6 => .inl ⟨_, rfl, q6 H6 (Ex.refl H6)⟩) (ev_var rfl) (rv_I (C := fun _ j => j ≠ 0) (by show (many : Int) ≠ 0; omega))) (by rw [ej])) (fun H9 e9 => ?_)
          have g9 := g8.trans (Gr.of_ex g8.i e9)
          exact q _ S H9 g9 (R.next g9 ⟨c + 1, g', m', e9 _ _ hR8, by omega⟩) ⟨j, rfl, hj⟩
        refine q_when (b := decide ((10 : Int) ^ (18 : Int).toNat ≤ x)) (et_test (ev_op (ev_var rfl) (ev_op ev_c ev_c (rv_I ⟨by decide, by decide, by decide⟩)) rv_I0)) (fun hb H8 e8 => ?_) (fun hb H8 e8 => ?_)
        · have hR8 := e8 _ _ hR6
          refine s_setL (l := r) (xs := [.ref a, .int (c + 1), .int g', .int m]) (j := 3) (v := .int (x.fdiv (many : Int))) hR8 (ev_op (ev_var rfl) (ev_var rfl) (rv_I (hdN x))) (ev_var rfl) ev_c (by show 3 < 4; decide) (fun H9 e9 => ?_)
          exact fin _ (x.fdiv (many : Int)) ((g6.trans (Gr.of_ex g6.i (e8.trans e9))).put (.inr (by simp)) R.no) upd_same
        · exact fin _ m (g6.trans (Gr.of_ex g6.i e8)) (e8 _ _ hR6)
end
end Tr
end
section
set_option Elab.async false
set_option linter.all false
set_option maxRecDepth 100000
set_option maxHeartbeats 4000000
namespace Tr
open PySem PySem.Spec PyProof.Rows L2 Evl
section
variable {K : PySem.W.Frag} {σ : L2.St} {S H : Hp} {tb : TS} {D : Ends} {g : TG}
/-- a loop over a range, n turns from lo -/
theorem itr_go {lo : Int} {n j : Nat} (Pv : Nat → L2.St → Hp → Prop) (h0 : Pv 0 σ H)
    (hs : ∀ i σ' H', i < n → Pv i σ' H' → tb { D with nx := Pv (i + 1), ct := Pv (i + 1), bk := D.nx } (σ'.set j (some (.int (lo + (i : Nat))))) H') (hd : ∀ σ' H', Pv n σ' H' → D.nx σ' H') :
    ∃ W : Nat → Nat → L2.St → Hp → Prop, (∃ m, W 0 m σ H) ∧ ∀ i m σ H, W i m σ H →
  ((Itr lo n).stop i H ∧ D.nx σ H) ∨ ((Itr lo n).go i H ∧ ∃ N : L2.St → Hp → Prop, (∀ σ' H', N σ' H' → ∃ m', m' < m ∧ W (i + 1) m' σ' H') ∧ ∀ x H', (Itr lo n).yld i H x H' → gName j x σ H' fun σ2 H2 => tb { D with nx := N, ct := N, bk := D.nx } σ2 H2) := by
  refine ⟨fun i m σ H => m = n - i ∧ i ≤ n ∧ Pv i σ H, ⟨n, by simp, Nat.zero_le _, h0⟩, ?_⟩
  rintro i m σ' H' ⟨rfl, hi, p⟩
  by_cases hlt : i < n
  · refine .inr ⟨hlt, Pv (i + 1), fun σ2 H2 p2 => ⟨n - (i + 1), by omega, rfl, hlt, p2⟩, fun x H2 y => ?_⟩
    obtain ⟨rfl, rfl⟩ := y
    exact hs i σ' H2 hlt p
  · have ei : i = n := by omega
    subst ei
    exact .inl ⟨Nat.le_refl _, hd σ' H' p⟩
theorem rng1_go {m j : Nat} (hm : m ≤ 1000000) (Pv : Nat → L2.St → Hp → Prop) (h0 : Pv 0 σ H)
    (hs : ∀ i σ' H', i < m → Pv i σ' H' → tb { D with nx := Pv (i + 1), ct := Pv (i + 1), bk := D.nx } (σ'.set j (some (.int (i : Int)))) H') (hd : ∀ σ' H', Pv m σ' H' → D.nx σ' H') :
    ∃ k : Int, [V.int (m : Int)] = [.int k] ∧ -(2 ^ 62) ≤ k ∧ k < 2 ^ 62 ∧ ∃ W : Nat → Nat → L2.St → Hp → Prop, (∃ m, W 0 m σ H) ∧ ∀ i m σ H, W i m σ H →
  ((Itr 0 k.toNat).stop i H ∧ D.nx σ H) ∨ ((Itr 0 k.toNat).go i H ∧ ∃ N : L2.St → Hp → Prop, (∀ σ' H', N σ' H' → ∃ m', m' < m ∧ W (i + 1) m' σ' H') ∧ ∀ x H', (Itr 0 k.toNat).yld i H x H' → gName j x σ H' fun σ2 H2 => tb { D with nx := N, ct := N, bk := D.nx } σ2 H2) := by
  refine ⟨(m : Int), rfl, by omega, by omega, ?_⟩
  have e : ((m : Int)).toNat = m := by omega
  rw [e]
  exact itr_go Pv h0 (fun i σ' H' hi p => by rw [Int.zero_add]; exact hs i σ' H' hi p) hd
theorem rng2_go {l m j : Nat} (hl : l ≤ 1000000) (hm : m ≤ 1000000) (Pv : Nat → L2.St → Hp → Prop) (h0 : Pv 0 σ H)
    (hs : ∀ i σ' H', i < m - l → Pv i σ' H' → tb { D with nx := Pv (i + 1), ct := Pv (i + 1), bk := D.nx } (σ'.set j (some (.int ((l + i : Nat) : Int)))) H') (hd : ∀ σ' H', Pv (m - l) σ' H' → D.nx σ' H') :
    ∃ i j' : Int, [V.int (l : Int), .int (m : Int)] = [.int i, .int j'] ∧ (-(2 ^ 62) ≤ i ∧ i < 2 ^ 62 ∧ -(2 ^ 62) ≤ j' ∧ j' < 2 ^ 62) ∧ ∃ W : Nat → Nat → L2.St → Hp → Prop, (∃ m, W 0 m σ H) ∧ ∀ i' m σ H, W i' m σ H →
  ((Itr i (j' - i).toNat).stop i' H ∧ D.nx σ H) ∨ ((Itr i (j' - i).toNat).go i' H ∧ ∃ N : L2.St → Hp → Prop, (∀ σ' H', N σ' H' → ∃ m', m' < m ∧ W (i' + 1) m' σ' H') ∧ ∀ x H', (Itr i (j' - i).toNat).yld i' H x H' → gName j x σ H' fun σ2 H2 => tb { D with nx := N, ct := N, bk := D.nx } σ2 H2) := by
  refine ⟨(l : Int), (m : Int), rfl, ⟨by omega, by omega, by omega, by omega⟩, ?_⟩
  have e : ((m : Int) - (l : Int)).toNat = m - l := by omega
  rw [e]
  exact itr_go Pv h0 (fun i σ' H' hi p => by rw [← Int.natCast_add]; exact hs i σ' H' hi p) hd
end
section
variable {K : PySem.W.Frag} {σ : L2.St} {H : Hp} {te ta tb to : TE} {t tr : TA} {D : Ends} {Q : VK} {r : R2} {v : V} {i : Nat}
theorem x_ret (k : te σ H D.rt) : tRet te D σ H := k
theorem x_drop (k : te σ H fun _ H1 => D.nx σ H1) : tDrop te D σ H := k
theorem x_asg (k : te σ H fun v H1 => D.nx (σ.set i (some v)) H1) : tAsg te (gName i) D σ H := k
theorem x_op (k : ta σ H fun x H1 => tb σ H1 fun y H2 => r x y H2 Q) : tOp r ta tb σ H Q := k
theorem x_bm {T : String} {m : V → List V → Hp → VK → Prop} (k : to σ H fun x H1 => tyV K T x H1 ∧ t σ H1 fun xs H2 => m x xs H2 Q) : tBM K T m to t σ H Q := k
theorem x_cons {Q : List V → Hp → Prop} (k : te σ H fun x H1 => tr σ H1 fun vs H2 => Q (x :: vs) H2) : tCons te tr σ H Q := k
theorem x_nil {Q : List V → Hp → Prop} (k : Q [] H) : tNil σ H Q := k
theorem x_var (h : σ[i]? = some (some v)) (k : Q v H) : tVar i σ H Q := ⟨v, h, k⟩
theorem x_c (k : Q v H) : tC v σ H Q := k
theorem x_ev (h : Ev te σ H v) (k : ∀ H1, Ex H H1 → Q v H1) : te σ H Q := h H (Ex.refl H) Q k
end
theorem perm_erase : ∀ (l : List Nat) (k x : Nat), l[k]? = some x → l.Perm (x :: l.eraseIdx k)
  | [], k, x, h => by simp at h
  | a :: r, 0, x, h => by
    simp at h; subst h
    exact List.Perm.refl _
  | a :: r, k + 1, x, h => by
    have := perm_erase r k x (by simpa using h)
    exact (List.Perm.cons a this).trans (List.Perm.swap x a _)
section
variable {P : Program} {w : World} {K : PySem.W.Frag} {mg : Str → Option Value} {base : Heap}
def sp_pick (K : PySem.W.Frag) : Sp := fun vs H Q _ => ∃ (S : Hp) (r a : Addr) (ns : List Int) (t : V) (xs : List V), vs = [.ref r, t] ∧ Row K S H r a ns ∧ LstA S t xs ∧ 0 < xs.length ∧ xs.length ≤ 1000000 ∧ RetR K S H r a ns (fun v _ => ∃ j : Nat, xs[j]? = some v) Q
theorem sp_pick_ok {S H : Hp} {r a : Addr} {ns : List Int} {t : V} {xs : List V} (R : Row K S H r a ns) (ht : LstA S t xs) (h1 : 0 < xs.length) (h2 : xs.length ≤ 1000000) : SpR K (sp_pick K) ([.ref r, t] ++ []) S H r a ns (fun v _ => ∃ j : Nat, xs[j]? = some v) := fun Q E q => ⟨S, r, a, ns, t, xs, rfl, R, ht, h1, h2, q⟩
theorem ok__law_pick (T : Tx K mg) : OkD P w K mg base 2 "_law_pick" ["_law_row", "_law_things"] (sp_pick K) := by
  refine mk__law_pick T (fun vs H Q E h => ?_) (fun f cdv A outer s H vs Q E hr h => ?_)
  · obtain ⟨S, r, a, ns, t, xs, rfl, _⟩ := h
    rfl
  · obtain ⟨S, r, a, ns, t, xs, rfl, R, ht, h1, h2, q⟩ := h
    refine ⟨_, (pss_one (ps_ret (pe_ix (ixLK K) (pv 1) (pcall (ok__law_taken T) (hr.mono (by decide)) (pa_cons (pv 0) (pa_cons (pe_callB (lenK K) (by rfl) T.b_len (by decide +kernel) (pa_cons (pv 1) pa_nil)) pa_nil))) (fun _ _ => rfl)))), ?_⟩
    obtain ⟨b, rfl, hb⟩ := id ht
    have R1 := R
    refine x_ret (x_op (x_var (v := .ref b) rfl ?_))
    refine er_call (K := K) (S := S) (H := H) (vs := [.ref r, .int (xs.length : Int)]) R1 (ea_cons (ev_var rfl) (ea_cons (ev_lenL (ev_var rfl) ⟨b, rfl, R1.ex _ _ hb⟩) ea_nil)) (fun H2 e2 R2 => sp_taken_ok R2 h1 h2) _ fun v S2 H2 g2 R2 ⟨j, ev, hj⟩ => ?_
    subst ev
    refine ⟨b, xs, (j : Int), xs[j], rfl, rfl, sq_of (g2.i _ _ (g2.s _ _ hb)), atI_of (List.getElem?_eq_getElem hj), ?_⟩
    exact q _ S2 H2 g2 R2 ⟨j, List.getElem?_eq_getElem hj⟩
def sp_mixed (K : PySem.W.Frag) : Sp := fun vs H Q _ => ∃ (S : Hp) (r a : Addr) (ns : List Int) (t : V) (xs : List Nat), vs = [.ref r, t] ∧ Row K S H r a ns ∧ LstA S t (nV xs) ∧ xs.length ≤ 1000 ∧ RetR K S H r a ns (fun v S' => ∃ ys : List Nat, LstA S' v (nV ys) ∧ ys.Perm xs) Q
theorem sp_mixed_ok {S H : Hp} {r a : Addr} {ns : List Int} {t : V} {xs : List Nat} (R : Row K S H r a ns) (ht : LstA S t (nV xs)) (h2 : xs.length ≤ 1000) : SpR K (sp_mixed K) ([.ref r, t] ++ []) S H r a ns (fun v S' => ∃ ys : List Nat, LstA S' v (nV ys) ∧ ys.Perm xs) := fun Q E q => ⟨S, r, a, ns, t, xs, rfl, R, ht, h2, q⟩
theorem nV_erase (xs : List Nat) (k : Nat) : (nV xs).eraseIdx k = nV (xs.eraseIdx k) := by
  unfold nV
  induction xs generalizing k with
  | nil => simp
  | cons x r ih =>
    cases k with
    | zero => simp
    | succ k => simp [ih]
theorem ok__law_mixed (T : Tx K mg) : OkD P w K mg base 2 "_law_mixed" ["_law_row", "_law_some"] (sp_mixed K) := by
  refine mk__law_mixed T (fun vs H Q E h => ?_) (fun f cdv A outer s H vs Q E hr h => ?_)
  · obtain ⟨S, r, a, ns, t, xs, rfl, _⟩ := h
    rfl
  · obtain ⟨S, r, a, ns, t, xs, rfl, R, ht, h2, q⟩ := h
    refine ⟨_, (pss_cons (ps_par (i := 2) (j := 3) rfl sc__law_mixed.nd rfl rfl (by decide) rfl rfl (pa_cons (pe_callTy call_list_of (by rfl) T.b_list (by decide +kernel) (pa_cons (pv 1) pa_nil)) (pa_cons (pe_lst pa_nil) pa_nil)) (by rfl))
    (pss_cons (ps_for PassesOwn.never rfl (pi_range1 (by rfl) T.b_range (pa_cons (pe_callB (lenK K) (by rfl) T.b_len (by decide +kernel) (pa_cons (pv 2) pa_nil)) pa_nil)) (pg_name (i := 4) sc__law_mixed.nd rfl (Or.inl rfl))
      (pss_one (ps_expr (pe_bm PySem.F.plainAttrs_list PySem.F.slot_list_append PySem.F.type_list_append mt_append (pv 3) (pa_cons (pe_bm PySem.F.plainAttrs_list PySem.F.slot_list_pop PySem.F.type_list_pop mt_popAt (pv 2) (pa_cons (pcall (ok__law_taken T) (hr.mono (by decide)) (pa_cons (pv 0) (pa_cons (pe_callB (lenK K) (by rfl) T.b_len (by decide +kernel) (pa_cons (pv 2) pa_nil)) pa_nil))) pa_nil)) pa_nil)))))
    (pss_one (ps_ret (pv 3))))), ?_⟩
    obtain ⟨b, rfl, hb⟩ := id ht
    refine ev_var (H := H) (σ := start N__law_mixed [.ref r, .ref b]) (i := 1) (v := .ref b) rfl H (Ex.refl H) _ fun H1 e1 => ?_
    have R1 := R.up e1
    refine ⟨b, nV xs, rfl, .inl (sq_of (R1.ex _ _ hb)), fun L hL => ?_⟩
    have hLH : H L = none := (Gr.of_ex (M := []) R.ex e1).fr R.ex hL
    have hLS : S L = none := fresh_back R1.ex hL
    have g2 : Gr [r] S H S (upd H1 L (.lst (nV xs))) := (Gr.of_ex R.ex e1).trans (Gr.lay R1.ex hL)
    have R2 : Row K S (upd H1 L (.lst (nV xs))) r a ns := R1.up (Ex.new hL)
    have h2L : upd H1 L (.lst (nV xs)) L = some (.lst (nV xs)) := upd_same
    generalize upd H1 L (.lst (nV xs)) = H2 at g2 R2 h2L ⊢
    refine ⟨by show 0 ≤ sizeLine; omega, fun F hF => ?_⟩
    have hFH : H F = none := g2.fr R.ex hF
    have hFS : S F = none := fresh_back R2.ex hF
    have hLF : L ≠ F := fun e => by rw [e, hF] at h2L; cases h2L
    have hrF : r ≠ F := fun e => R2.ne (e ▸ hF)
    have hrL : r ≠ L := fun e => R1.ne (e ▸ hL)
    have g3 : Gr [r] S H S (upd H2 F (.lst [])) := g2.trans (Gr.lay R2.ex hF)
    have R3 : Row K S (upd H2 F (.lst [])) r a ns := R2.up (Ex.new hF)
    have h3L : upd H2 F (.lst []) L = some (.lst (nV xs)) := by rw [upd_ne hLF]; exact h2L
    have h3F : upd H2 F (.lst []) F = some (.lst (nV [])) := upd_same
    generalize upd H2 F (.lst []) = H3 at g3 R3 h3L h3F ⊢
    refine ⟨.ref L, .ref F, rfl, ?_⟩
    show tSeq _ _ _ [some (.ref r), some (.ref b), some (.ref L), some (.ref F), none] H3
    refine (ev_lenL (K := K) (xs := nV xs) (ev_var (i := 2) rfl) ⟨L, rfl, h3L⟩ : Ev _ _ H3 _) H3 (Ex.refl H3) _ fun H4 e4 => ?_
    rw [nV_len]
    refine rng1_go (by omega) (fun i σ' H' => ∃ (S' : Hp) (left fnd : List Nat) (y : Option V), σ' = [some (.ref r), some (.ref b), some (.ref L), some (.ref F), y] ∧ Gr [r] S H S' H' ∧ Row K S' H' r a ns ∧ S' L = none ∧ S' F = none ∧ H' L = some (.lst (nV left)) ∧ H' F = some (.lst (nV fnd)) ∧ (fnd ++ left).Perm xs ∧ fnd.length = i)
      ⟨S, xs, [], none, rfl, g3.trans (Gr.of_ex g3.i e4), R3.up e4, hLS, hFS, e4 _ _ h3L, e4 _ _ h3F, List.Perm.refl _, rfl⟩ ?_ ?_
    · rintro i σ' H' hi ⟨S', left, fnd, y, rfl, gg, R', sL, sF, hL', hF', hp, hlen⟩
      have hll : 0 < left.length := by
        have := hp.length_eq
        rw [List.length_append] at this
        omega
      have hll2 : left.length ≤ 1000 := by
        have := hp.length_eq
        rw [List.length_append] at this
        omega
      show tDrop _ _ [some (.ref r), some (.ref b), some (.ref L), some (.ref F), some (.int (i : Int))] H'
      have R6 := R'
      have hL6 := hL'
      have hF6 := hF'
      have g6 := gg
      refine x_drop (x_bm (x_var (v := .ref F) rfl ⟨.inl ⟨rfl, _, sq_of hF'⟩, x_cons (x_bm (x_var (v := .ref L) rfl ⟨.inl ⟨rfl, _, sq_of hL'⟩, x_cons ?_⟩))⟩))
      refine er_call (K := K) (S := S') (H := H') (vs := [.ref r, .int (left.length : Int)]) R6 (ea_cons (ev_var rfl) (ea_cons (by have := ev_lenL (K := K) (S := H') (σ := [some (.ref r), some (.ref b), some (.ref L), some (.ref F), some (.int (i : Int))]) (xs := nV left) (ev_var (i := 2) (v := .ref L) rfl) ⟨L, rfl, hL6⟩; rw [nV_len] at this; exact this) ea_nil)) (fun H7 e7 R7 => sp_taken_ok R7 hll (by omega)) _ fun v S7 H7 g7 R7 ⟨j, ev, hj⟩ => ?_
      subst ev
      have hL7 : H7 L = some (.lst (nV left)) := g7.h _ _ (by simp [Ne.symm hrL]) hL6
      have hF7 : H7 F = some (.lst (nV fnd)) := g7.h _ _ (by simp [Ne.symm hrF]) hF6
      have s7L : S7 L = none := g7.f _ sL (by rw [hL6]; simp)
      have s7F : S7 F = none := g7.f _ sF (by rw [hF6]; simp)
      have hjx : left[j]? = some left[j] := List.getElem?_eq_getElem hj
      refine ⟨L, nV left, (j : Int), j, .int (left[j] : Int), rfl, rfl, hL7, by omega, by omega, ?_, nV_get hjx, ?_⟩
      · rw [nV_len]
        unfold seqIndex?
        simp
        omega
      have g7' := g6.trans g7
      refine ⟨F, nV fnd, .int (left[j] : Int), rfl, rfl, ?_, by rw [nV_len]; exact sz_lt (by have := hp.length_eq; rw [List.length_append] at this; omega), ?_⟩
      · rw [upd_ne (Ne.symm hLF)]; exact hF7
      rw [nV_erase, ← nV_snoc]
      have g8 := g7'.put (p := L) (u := .lst (nV (left.eraseIdx j))) (.inl hLH) s7L
      have g9 := g8.put (p := F) (u := .lst (nV (fnd ++ [left[j]]))) (.inl hFH) s7F
      have hat : RowAt (upd (upd H7 L (.lst (nV (left.eraseIdx j)))) F (.lst (nV (fnd ++ [left[j]])))) r a := by
        obtain ⟨c, g, m, h1, h2⟩ := R7.at_
        exact ⟨c, g, m, by rw [upd_ne hrF, upd_ne hrL]; exact h1, h2⟩
      refine ⟨S7, left.eraseIdx j, fnd ++ [left[j]], _, rfl, g9, R.next g9 hat, s7L, s7F, ?_, upd_same, ?_, ?_⟩
      · rw [upd_ne hLF]; exact upd_same
      · rw [List.append_assoc]
        exact ((List.perm_append_left_iff fnd).mpr (perm_erase left j _ hjx).symm).trans hp
      · rw [List.length_append, hlen]; rfl
    · rintro σ' H' ⟨S', left, fnd, y, rfl, gg, R', sL, sF, hL', hF', hp, hlen⟩
      have hl0 : left = [] := by
        have := hp.length_eq
        rw [List.length_append] at this
        exact List.length_eq_zero_iff.mp (by omega)
      subst hl0
      rw [List.append_nil] at hp
      show tRet (tVar 3) _ [some (.ref r), some (.ref b), some (.ref L), some (.ref F), y] H'
      refine s_ret (v := .ref F) (ev_var rfl) (fun H5 e5 => ?_)
      have g5 := (gg.trans (Gr.of_ex gg.i e5)).fix hFH (e5 _ _ hF')
      exact q _ _ H5 g5 (R.next g5 (R'.at_.ex e5)) ⟨fnd, ⟨F, rfl, upd_same⟩, hp⟩
end
end Tr
end
section
set_option linter.all false
/-! growing a tree; distances. Plain Lean. -/
namespace Tr
structure TreeI (nm : List Nat) (k n : Nat) (es : List (Nat × Nat)) : Prop where
  ok : ∀ e ∈ es, e.1 < e.2 ∧ e.2 < n
  inn : ∀ e ∈ es, e.1 ∈ nm.take k ∧ e.2 ∈ nm.take k
  col : ∃ c, Col es c
  con : ∀ Q : Nat → Prop, (∀ u v, Adj es u v → Q u → Q v) → ∀ u ∈ nm.take k, Q u → ∀ v ∈ nm.take k, Q v
  nd : es.Nodup
  len : es.length + 1 = k
theorem TreeI.start {nm : List Nat} {n : Nat} (h : 0 < nm.length) : TreeI nm 1 n [] where
  ok := fun e he => nomatch he
  inn := fun e he => nomatch he
  col := ⟨fun _ => 0, fun u v ha => by rcases ha with h | h <;> cases h⟩
  con := fun Q _ u hu hq v hv => by
    cases nm with
    | nil => exact absurd h (by decide)
    | cons a r =>
      have h1 : u = a := by simpa using hu
      have h2 : v = a := by simpa using hv
      rw [h2, ← h1]; exact hq
  nd := List.nodup_nil
  len := rfl
theorem adj_app {es fs : List (Nat × Nat)} {u v : Nat} : Adj (es ++ fs) u v ↔ Adj es u v ∨ Adj fs u v := by
  unfold Adj
  rw [List.mem_append, List.mem_append]
  constructor
  · rintro ((h | h) | (h | h))
    · exact .inl (.inl h)
    · exact .inr (.inl h)
    · exact .inl (.inr h)
    · exact .inr (.inr h)
  · rintro ((h | h) | (h | h))
    · exact .inl (.inl h)
    · exact .inr (.inl h)
    · exact .inl (.inr h)
    · exact .inr (.inr h)
theorem adj_one {a b u v : Nat} : Adj [(min a b, max a b)] u v ↔ (u = min a b ∧ v = max a b) ∨ (v = min a b ∧ u = max a b) := by
  unfold Adj
  rw [List.mem_singleton, List.mem_singleton, Prod.mk.injEq, Prod.mk.injEq]
theorem adj_one' {a b u v : Nat} (h : Adj [(min a b, max a b)] u v) : (u = a ∧ v = b) ∨ (u = b ∧ v = a) := by
  rw [adj_one] at h
  omega
theorem adj_ab {a b : Nat} : Adj [(min a b, max a b)] a b := by rw [adj_one]; omega
theorem TreeI.add {nm : List Nat} {k n a b p : Nat} {es : List (Nat × Nat)} (I : TreeI nm k n es) (hn : nm.Nodup) (hlt : ∀ x ∈ nm, x < n) (ha : nm[k]? = some a) (hb : nm[p]? = some b) (hp : p < k) : TreeI nm (k + 1) n (es ++ [(min a b, max a b)]) := by
  have ht : nm.take (k + 1) = nm.take k ++ [a] := by rw [List.take_add_one, ha]; rfl
  have hka : k < nm.length := (List.getElem?_eq_some_iff.mp ha).1
  have hbk : b ∈ nm.take k := by
    refine List.mem_of_getElem? (i := p) ?_
    rw [List.getElem?_take, if_pos hp]; exact hb
  have hak : a ∉ nm.take k := fun h => by
    obtain ⟨j, hj, e⟩ := List.mem_iff_getElem.mp h
    rw [List.getElem_take] at e
    have hj' : j < k := by rw [List.length_take] at hj; omega
    have e2 : nm[k] = a := (List.getElem?_eq_some_iff.mp ha).2
    have := (List.nodup_iff_pairwise_ne.mp hn)
    rw [List.pairwise_iff_getElem] at this
    exact this j k (by omega) hka hj' (by rw [e, e2])
  have hab : a ≠ b := fun e => hak (e ▸ hbk)
  have hlta := hlt a (List.mem_of_getElem? ha)
  have hltb := hlt b (List.mem_of_getElem? hb)
  refine ⟨fun e he => ?_, fun e he => ?_, ?_, fun Q hQ => ?_, ?_, ?_⟩
  · rcases List.mem_append.mp he with he | he
    · exact I.ok e he
    · rw [List.mem_singleton] at he
      subst he
      show min a b < max a b ∧ max a b < n
      omega
  · rw [ht]
    rcases List.mem_append.mp he with he | he
    · exact ⟨List.mem_append_left _ (I.inn e he).1, List.mem_append_left _ (I.inn e he).2⟩
    · rw [List.mem_singleton] at he
      subst he
      show min a b ∈ _ ∧ max a b ∈ _
      have h1 : a ∈ nm.take k ++ [a] := by simp
      have h2 : b ∈ nm.take k ++ [a] := List.mem_append_left _ hbk
      rcases Nat.le_total a b with h | h
      · rw [Nat.min_eq_left h, Nat.max_eq_right h]; exact ⟨h1, h2⟩
      · rw [Nat.min_eq_right h, Nat.max_eq_left h]; exact ⟨h2, h1⟩
  · obtain ⟨c, hc⟩ := I.col
    refine ⟨updF c a (c b + 1), fun u v huv => ?_⟩
    rcases adj_app.mp huv with h | h
    · have hu : u ≠ a ∧ v ≠ a := by
        rcases h with h | h
        · exact ⟨fun e => hak (e ▸ (I.inn _ h).1), fun e => hak (e ▸ (I.inn _ h).2)⟩
        · exact ⟨fun e => hak (e ▸ (I.inn _ h).2), fun e => hak (e ▸ (I.inn _ h).1)⟩
      rw [updF_ne hu.1, updF_ne hu.2]
      exact hc u v h
    · rcases adj_one' h with ⟨rfl, rfl⟩ | ⟨rfl, rfl⟩
      · rw [updF_same, updF_ne (Ne.symm hab)]; omega
      · rw [updF_same, updF_ne (Ne.symm hab)]; omega
  · have hQ1 : ∀ u v, Adj es u v → Q u → Q v := fun u v h => hQ u v (adj_app.mpr (.inl h))
    have hab1 : Q a → Q b := hQ a b (adj_app.mpr (.inr adj_ab))
    have hba : Q b → Q a := hQ b a (adj_app.mpr (.inr (by
      have := adj_ab (a := a) (b := b)
      unfold Adj at this ⊢
      exact this.symm)))
    intro u hu hq v hv
    rw [ht] at hu hv
    have hbq : Q b := by
      rcases List.mem_append.mp hu with hu | hu
      · exact I.con Q hQ1 u hu hq b hbk
      · rw [List.mem_singleton] at hu; subst hu; exact hab1 hq
    rcases List.mem_append.mp hv with hv | hv
    · exact I.con Q hQ1 b hbk hbq v hv
    · rw [List.mem_singleton] at hv; subst hv; exact hba hbq
  · refine List.nodup_append.mpr ⟨I.nd, by simp, fun x hx y hy => ?_⟩
    rw [List.mem_singleton] at hy
    rintro rfl
    have := I.inn x hx
    rw [hy] at this
    have h1 : min a b ∈ nm.take k := this.1
    have h2 : max a b ∈ nm.take k := this.2
    rcases Nat.le_total a b with h | h
    · rw [Nat.min_eq_left h] at h1; exact hak h1
    · rw [Nat.max_eq_left h] at h2; exact hak h2
  · rw [List.length_append, List.length_singleton]; have := I.len; omega
/-- a tree on n fields -/
structure TreeOk (n : Nat) (es : List (Nat × Nat)) (c : Nat → Nat) : Prop where
  ok : ∀ e ∈ es, e.1 < e.2 ∧ e.2 < n
  col : Col es c
  con : Conn es n
  nd : es.Nodup
theorem TreeI.fin {nm : List Nat} {n : Nat} {es : List (Nat × Nat)} (I : TreeI nm n n es) (hp : nm.Perm (List.range n)) : ∃ c, TreeOk n es c := by
  obtain ⟨c, hc⟩ := I.col
  have hl : nm.length = n := by rw [hp.length_eq, List.length_range]
  have ht : nm.take n = nm := by rw [← hl]; exact List.take_length
  have hm : ∀ v, v < n → v ∈ nm.take n := fun v hv => by rw [ht]; exact hp.mem_iff.mpr (List.mem_range.mpr hv)
  exact ⟨c, I.ok, hc, fun Q ⟨s, hs, hq⟩ hst v hv => I.con Q hst s (hm s hs) hq v (hm v hv), I.nd⟩
end Tr
end
section
set_option Elab.async false
set_option linter.all false
set_option maxRecDepth 100000
set_option maxHeartbeats 4000000
namespace Tr
open PySem PySem.Spec PyProof.Rows L2 Evl
section
variable {K : PySem.W.Frag} {σ : L2.St} {H S : Hp} {ta tb : TE} {D : Ends} {Q : VK} {i j : Nat} {t : TA}
theorem x_par (k : t σ H fun vs H1 => ∃ v w, vs = [v, w] ∧ D.nx ((σ.set i (some v)).set j (some w)) H1) : tPar i j t D σ H := k
theorem x_call {sp : Sp} {dvs : List V} {E : XK} (k : t σ H fun vs H1 => sp (vs ++ dvs) H1 Q E) : tCall sp dvs E t σ H Q := k
theorem x_lstrg (k : ta σ H fun x H1 => ∃ n, x = .int n ∧ RgOk 0 n ∧ ∀ q, H1 q = none → Q (.ref q) (upd H1 q (.lst (rgV 0 n)))) : tLstRg (tRg1 ta) σ H Q := k
theorem x_seq {A tz : TS} (k : A { D with nx := tz D } σ H) : tSeq A tz D σ H := k
theorem x_for2 {g : TG} {tb : TS} (k : t σ H fun vs H1 => ∃ i j' : Int, vs = [.int i, .int j'] ∧ (-(2 ^ 62) ≤ i ∧ i < 2 ^ 62 ∧ -(2 ^ 62) ≤ j' ∧ j' < 2 ^ 62) ∧ ∃ W : Nat → Nat → L2.St → Hp → Prop, (∃ m, W 0 m σ H1) ∧ ∀ i' m σ H, W i' m σ H →
  ((Itr i (j' - i).toNat).stop i' H ∧ D.nx σ H) ∨ ((Itr i (j' - i).toNat).go i' H ∧ ∃ N : L2.St → Hp → Prop, (∀ σ' H', N σ' H' → ∃ m', m' < m ∧ W (i' + 1) m' σ' H') ∧ ∀ x H', (Itr i (j' - i).toNat).yld i' H x H' → g x σ H' fun σ2 H2 => tb { D with nx := N, ct := N, bk := D.nx } σ2 H2)) : tFor (iRng2 t) g tb D σ H := k
theorem x_for1 {g : TG} {tb : TS} (k : t σ H fun vs H1 => ∃ k : Int, vs = [.int k] ∧ -(2 ^ 62) ≤ k ∧ k < 2 ^ 62 ∧ ∃ W : Nat → Nat → L2.St → Hp → Prop, (∃ m, W 0 m σ H1) ∧ ∀ i m σ H, W i m σ H →
  ((Itr 0 k.toNat).stop i H ∧ D.nx σ H) ∨ ((Itr 0 k.toNat).go i H ∧ ∃ N : L2.St → Hp → Prop, (∀ σ' H', N σ' H' → ∃ m', m' < m ∧ W (i + 1) m' σ' H') ∧ ∀ x H', (Itr 0 k.toNat).yld i H x H' → g x σ H' fun σ2 H2 => tb { D with nx := N, ct := N, bk := D.nx } σ2 H2)) : tFor (iRng1 t) g tb D σ H := k
theorem x_lst (k : t σ H fun vs H1 => vs.length ≤ sizeLine ∧ ∀ p, H1 p = none → Q (.ref p) (upd H1 p (.lst vs))) : tLst t σ H Q := k
def rMin2 : List V → Hp → VK → Prop := fun xs H Q => ∃ i j, xs = [.int i, .int j] ∧ Q (.int (if j < i then j else i)) H
def rMax2 : List V → Hp → VK → Prop := fun xs H Q => ∃ i j, xs = [.int i, .int j] ∧ Q (.int (if j > i then j else i)) H
theorem cr_min2 {X : Cx} (hc : X.calm = true) : CallR X (.builtin "min") rMin2 := call_min2 hc
theorem cr_max2 {X : Cx} (hc : X.calm = true) : CallR X (.builtin "max") rMax2 := call_max2 hc
theorem ev_minN {a b : Nat} (ha : Ev ta σ S (.int (a : Int))) (hb : Ev tb σ S (.int (b : Int))) : Ev (tCB rMin2 (tCons ta (tCons tb tNil))) σ S (.int ((min a b : Nat) : Int)) := ev_cb (ea_cons ha (ea_cons hb ea_nil)) fun H1 _ Q q => ⟨_, _, rfl, by
  have e : (if (b : Int) < (a : Int) then (b : Int) else (a : Int)) = ((min a b : Nat) : Int) := by split <;> omega
  rw [e]; exact q H1 (Ex.refl H1)⟩
theorem ev_maxN {a b : Nat} (ha : Ev ta σ S (.int (a : Int))) (hb : Ev tb σ S (.int (b : Int))) : Ev (tCB rMax2 (tCons ta (tCons tb tNil))) σ S (.int ((max a b : Nat) : Int)) := ev_cb (ea_cons ha (ea_cons hb ea_nil)) fun H1 _ Q q => ⟨_, _, rfl, by
  have e : (if (b : Int) > (a : Int) then (b : Int) else (a : Int)) = ((max a b : Nat) : Int) := by split <;> omega
  rw [e]; exact q H1 (Ex.refl H1)⟩
end
theorem paired_snoc {α β : Type} {F : α → β → Prop} {x : α} {y : β} : ∀ {l1 : List α} {l2 : List β}, Paired F l1 l2 → F x y → Paired F (l1 ++ [x]) (l2 ++ [y])
  | _, _, .nil, h => .cons h .nil
  | _, _, .cons r t, h => .cons r (paired_snoc t h)
theorem rgV0 (n : Nat) : rgV 0 (n : Int) = nV (List.range n) := by
  unfold rgV nV
  have e : ((n : Int) - 0).toNat = n := by omega
  rw [e]
  refine List.map_congr_left fun i _ => ?_
  rw [Int.zero_add]
section
variable {P : Program} {w : World} {K : PySem.W.Frag} {mg : Str → Option Value} {base : Heap}
def sp_tree (K : PySem.W.Frag) : Sp := fun vs H Q _ => ∃ (S : Hp) (r a : Addr) (ns : List Int) (n : Nat), vs = [.ref r, .int (n : Int)] ∧ Row K S H r a ns ∧ 0 < n ∧ n ≤ 60 ∧ RetR K S H r a ns (fun v S' => ∃ es c, PairsL S' v es ∧ TreeOk n es c ∧ es.length + 1 = n) Q
theorem sp_tree_ok {S H : Hp} {r a : Addr} {ns : List Int} {n : Nat} (R : Row K S H r a ns) (h1 : 0 < n) (h2 : n ≤ 60) : SpR K (sp_tree K) ([.ref r, .int (n : Int)] ++ []) S H r a ns (fun v S' => ∃ es c, PairsL S' v es ∧ TreeOk n es c ∧ es.length + 1 = n) := fun Q E q => ⟨S, r, a, ns, n, rfl, R, h1, h2, q⟩
theorem ok__law_tree (T : Tx K mg) : OkD P w K mg base 3 "_law_tree" ["_law_row", "_law_size"] (sp_tree K) := by
  refine mk__law_tree T (fun vs H Q E h => ?_) (fun f cdv A outer s H vs Q E hr h => ?_)
  · obtain ⟨S, r, a, ns, n, rfl, _⟩ := h
    rfl
  · obtain ⟨S, r, a, ns, n, rfl, R, hn0, hn, q⟩ := h
    refine ⟨_, (pss_cons (ps_par (i := 2) (j := 3) rfl sc__law_tree.nd rfl rfl (by decide) rfl rfl (pa_cons (pcall (ok__law_mixed T) (hr.mono (by decide)) (pa_cons (pv 0) (pa_cons (pe_listRg rfl (by rfl) T.b_list (prg_1 (by rfl) T.b_range (pv 1))) pa_nil))) (pa_cons (pe_lst pa_nil) pa_nil)) (by rfl))
    (pss_cons (ps_for PassesOwn.never rfl (pi_range2 (by rfl) T.b_range (pa_cons pe_int (pa_cons (pv 1) pa_nil))) (pg_name (i := 4) sc__law_tree.nd rfl (Or.inl rfl))
      (pss_cons (ps_par (i := 5) (j := 6) rfl sc__law_tree.nd rfl rfl (by decide) rfl rfl (pa_cons (pe_ix (ixLK K) (pv 2) (pv 4) (fun _ _ => rfl)) (pa_cons (pe_ix (ixLK K) (pv 2) (pcall (ok__law_pick T) (hr.mono (by decide)) (pa_cons (pv 0) (pa_cons (pe_lst (pa_cons pe_int (pa_cons (pe_op op_sub (pv 4) pe_int) (pa_cons (pcall (ok__law_taken T) (hr.mono (by decide)) (pa_cons (pv 0) (pa_cons (pv 4) pa_nil))) pa_nil)))) pa_nil))) (fun _ _ => rfl)) pa_nil)) (by rfl))
    (pss_one (ps_expr (pe_bm PySem.F.plainAttrs_list PySem.F.slot_list_append PySem.F.type_list_append mt_append (pv 3) (pa_cons (pe_tup (pa_cons (pe_callB (cr_min2 rfl) (by rfl) T.b_min (by decide +kernel) (pa_cons (pv 5) (pa_cons (pv 6) pa_nil))) (pa_cons (pe_callB (cr_max2 rfl) (by rfl) T.b_max (by decide +kernel) (pa_cons (pv 5) (pa_cons (pv 6) pa_nil))) pa_nil))) pa_nil))))))
    (pss_one (ps_ret (pv 3))))), ?_⟩
    refine x_seq (x_par (x_cons ?_))
    refine x_call (x_cons (x_var (v := .ref r) rfl (x_cons ?_)))
    refine x_lstrg (x_var (v := .int (n : Int)) rfl ⟨n, rfl, RgOk.of_le (by omega) (by omega) (by omega) (by omega), fun p hp => ?_⟩)
    rw [rgV0]
    have g1 : Gr [r] S H (upd S p (.lst (nV (List.range n)))) (upd H p (.lst (nV (List.range n)))) := Gr.new R.ex hp
    have R1 := R.next g1 (R.at_.ex (Ex.new hp))
    refine x_nil ?_
    refine sp_mixed_ok R1 ⟨p, rfl, upd_same⟩ (by rw [List.length_range]; omega) _ _ fun nmv S2 H2 g2 R2 ⟨nm, hnm, hperm⟩ => ?_
    have g12 := g1.trans g2
    refine x_cons (x_lst (x_nil ⟨by show 0 ≤ sizeLine; omega, fun F hF => ?_⟩))
    have hFH : H F = none := g12.fr R.ex hF
    have hFS : S2 F = none := fresh_back R2.ex hF
    have hrF : r ≠ F := fun e => R2.ne (e ▸ hF)
    have g3 : Gr [r] S H S2 (upd H2 F (.lst [])) := g12.trans (Gr.lay R2.ex hF)
    have R3 : Row K S2 (upd H2 F (.lst [])) r a ns := R2.up (Ex.new hF)
    have h3F : upd H2 F (.lst []) F = some (.lst []) := upd_same
    refine x_nil ⟨nmv, .ref F, rfl, ?_⟩
    generalize upd H2 F (.lst []) = H3 at g3 R3 h3F ⊢
    obtain ⟨an, rfl, han⟩ := hnm
    have hnl : nm.length = n := by rw [hperm.length_eq, List.length_range]
    have hnd : nm.Nodup := hperm.symm.nodup (List.nodup_range)
    have hlt : ∀ x ∈ nm, x < n := fun x hx => List.mem_range.mp (hperm.mem_iff.mp hx)
    show tSeq _ _ _ [some (.ref r), some (.int (n : Int)), some (.ref an), some (.ref F), none, none, none] H3
    refine x_seq (x_for2 (x_cons (x_c (x_cons (x_var (v := .int (n : Int)) rfl (x_nil ?_))))))
    refine rng2_go (l := 1) (m := n) (by omega) (by omega) (fun i σ' H' => ∃ (S' : Hp) (ps : List V) (es : List (Nat × Nat)) (y1 y2 y3 : Option V), σ' = [some (.ref r), some (.int (n : Int)), some (.ref an), some (.ref F), y1, y2, y3] ∧ Gr [r] S H S' H' ∧ Row K S' H' r a ns ∧ S' F = none ∧ S' an = some (.lst (nV nm)) ∧ H' F = some (.lst ps) ∧ Paired (PairV S') ps es ∧ TreeI nm (1 + i) n es)
      ⟨S2, [], [], none, none, none, rfl, g3, R3, hFS, han, h3F, .nil, TreeI.start (by omega)⟩ ?_ ?_
    · rintro i σ' H' hi ⟨S', ps, es, y1, y2, y3, rfl, gg, R', sF, hnm', hF', hps, I⟩
      have hlen := I.len
      obtain ⟨x, hx⟩ : ∃ x, nm[1 + i]? = some x := ⟨nm[1 + i]'(by omega), List.getElem?_eq_getElem (by omega)⟩
      show tSeq (tPar _ _ _) _ _ [some (.ref r), some (.int (n : Int)), some (.ref an), some (.ref F), some (.int ((1 + i : Nat) : Int)), y2, y3] H'
      refine x_seq (x_par (x_cons (x_ev (v := .int (x : Int)) (ev_ixL (x := .ref an) (j := 1 + i) (ev_var rfl) (ev_var rfl) ⟨an, rfl, R'.ex _ _ hnm'⟩ (nV_get hx)) fun H4 e4 => ?_)))
      have R4 := R'.up e4
      have gg4 := gg.trans (Gr.of_ex gg.i e4)
      refine x_cons (x_op (x_var (v := .ref an) rfl ?_))
      refine x_call (x_cons (x_var (v := .ref r) rfl (x_cons (x_lst (x_cons (x_c (x_cons (x_op (x_var (v := .int ((1 + i : Nat) : Int)) rfl (x_c ⟨_, _, rfl, rfl, x_cons ?_⟩))))))))))
      refine er_call (K := K) (S := S') (H := H4) (vs := [.ref r, .int ((1 + i : Nat) : Int)]) R4 (ea_cons (ev_var rfl) (ea_cons (ev_var rfl) ea_nil)) (fun H5 e5 R5 => sp_taken_ok R5 (by omega) (by omega)) _ fun v S5 H5 g5 R5 ⟨k, ev, hk⟩ => ?_
      subst ev
      have gg5 := gg4.trans g5
      refine x_nil ⟨by show 3 ≤ sizeLine; decide, fun p hp => ?_⟩
      have g6 : Gr [r] S5 H5 (upd S5 p (.lst [.int 0, .int (((1 + i : Nat) : Int) - 1), .int (k : Int)])) (upd H5 p (.lst [.int 0, .int (((1 + i : Nat) : Int) - 1), .int (k : Int)])) := Gr.new R5.ex hp
      have R6 := R5.next g6 (R5.at_.ex (Ex.new hp))
      have s5F : S5 F = none := g5.f _ sF (by rw [e4 _ _ hF']; simp)
      have h5F : H5 F = some (.lst ps) := g5.h _ _ (by simp [Ne.symm hrF]) (e4 _ _ hF')
      refine x_nil ?_
      refine sp_pick_ok R6 ⟨p, rfl, upd_same⟩ (by show 0 < 3; decide) (by show 3 ≤ 1000000; decide) _ _ fun v S7 H7 g7 R7 ⟨j, hj⟩ => ?_
      have hv : ∃ z : Nat, v = .int (z : Int) ∧ z < 1 + i := by
        match j, hj with
        | 0, hj => exact ⟨0, by cases hj; rfl, by omega⟩
        | 1, hj => exact ⟨i, by cases hj; congr 1; omega, by omega⟩
        | 2, hj => exact ⟨k, by cases hj; rfl, hk⟩
        | j + 3, hj => cases hj
      obtain ⟨z, rfl, hz⟩ := hv
      have gg7 := (gg5.trans g6).trans g7
      have pF : p ≠ F := fun e => by rw [e, h5F] at hp; cases hp
      have s6F : upd S5 p (.lst [.int 0, .int (((1 + i : Nat) : Int) - 1), .int (k : Int)]) F = none := by rw [upd_ne (Ne.symm pF)]; exact s5F
      have h6F : upd H5 p (.lst [.int 0, .int (((1 + i : Nat) : Int) - 1), .int (k : Int)]) F = some (.lst ps) := by rw [upd_ne (Ne.symm pF)]; exact h5F
      have s7F : S7 F = none := g7.f _ s6F (by rw [h6F]; simp)
      have h7F : H7 F = some (.lst ps) := g7.h _ _ (by simp [Ne.symm hrF]) h6F
      have x57 : Ex S' S7 := (g5.s.trans g6.s).trans g7.s
      obtain ⟨y, hy⟩ : ∃ y, nm[z]? = some y := ⟨nm[z]'(by omega), List.getElem?_eq_getElem (by omega)⟩
      refine ⟨an, nV nm, (z : Int), .int (y : Int), rfl, rfl, sq_of (g7.i _ _ (x57 _ _ hnm')), atI_of (nV_get hy), ?_⟩
      refine x_nil ⟨.int (x : Int), .int (y : Int), rfl, ?_⟩
      dsimp only
      show tDrop _ _ [some (.ref r), some (.int (n : Int)), some (.ref an), some (.ref F), some (.int ((1 + i : Nat) : Int)), some (.int (x : Int)), some (.int (y : Int))] H7
      refine x_drop (x_bm (x_var (v := .ref F) rfl ⟨.inl ⟨rfl, _, sq_of h7F⟩, ?_⟩))
      refine x_cons ?_
      refine eu_tup (σ := [some (.ref r), some (.int (n : Int)), some (.ref an), some (.ref F), some (.int ((1 + i : Nat) : Int)), some (.int (x : Int)), some (.int (y : Int))]) (H := H7) (ea_cons (ev_minN (a := x) (b := y) (ev_var rfl) (ev_var rfl)) (ea_cons (ev_maxN (a := x) (b := y) (ev_var rfl) (ev_var rfl)) ea_nil)) (by show 2 ≤ 100000; decide) H7 (Ex.refl H7) _ fun tp H8 htp e8 h8 => ?_
      have gg8 := gg7.trans (Gr.of_ex gg7.i e8)
      have hHt : H tp = none := gg7.fr R.ex htp
      have gg9 := gg8.fix hHt h8
      have h8F := e8 _ _ h7F
      have tF : tp ≠ F := fun e => by rw [e, h7F] at htp; cases htp
      have s9F : upd S7 tp (.tup [.int ((min x y : Nat) : Int), .int ((max x y : Nat) : Int)]) F = none := by rw [upd_ne (Ne.symm tF)]; exact s7F
      refine x_nil ⟨F, ps, .ref tp, rfl, rfl, h8F, sz_lt (by rw [hps.length]; omega), ?_⟩
      have g10 := gg9.put (p := F) (u := .lst (ps ++ [.ref tp])) (.inl hFH) s9F
      have hat : RowAt (upd H8 F (.lst (ps ++ [.ref tp]))) r a := by
        obtain ⟨c, g, m, h1, h2⟩ := R7.at_
        exact ⟨c, g, m, by rw [upd_ne hrF]; exact e8 _ _ h1, h2⟩
      have x9 : Ex S' (upd S7 tp (.tup [.int ((min x y : Nat) : Int), .int ((max x y : Nat) : Int)])) := x57.trans (Ex.new (fresh_back R7.ex htp))
      exact ⟨_, _, es ++ [(min x y, max x y)], _, _, _, rfl, g10, R.next g10 hat, s9F, x9 _ _ hnm', upd_same, paired_snoc (hps.mono fun _ _ q => q.mono x9) ⟨tp, rfl, upd_same⟩, I.add hnd hlt hx hy hz⟩
    · rintro σ' H' ⟨S', ps, es, y1, y2, y3, rfl, gg, R', sF, hnm', hF', hps, I⟩
      show tRet (tVar 3) _ [some (.ref r), some (.int (n : Int)), some (.ref an), some (.ref F), y1, y2, y3] H'
      have hlen := I.len
      rw [show 1 + (n - 1) = n by omega] at I
      obtain ⟨c, hT⟩ := I.fin hperm
      refine s_ret (v := .ref F) (ev_var rfl) (fun H5 e5 => ?_)
      have g5 := (gg.trans (Gr.of_ex gg.i e5)).fix hFH (e5 _ _ hF')
      exact q _ _ H5 g5 (R.next g5 (R'.at_.ex e5)) ⟨es, c, ⟨ps, ⟨F, rfl, upd_same⟩, hps.mono fun _ _ q => q.mono (Ex.new sF)⟩, hT, by omega⟩
end
end Tr
end
section
set_option linter.all false
/-! a search level by level. Plain Lean. -/
namespace Tr
structure Lev (es : List (Nat × Nat)) (n s m : Nat) (d : Nat → Option Nat) (line rim later : List Nat) (done : Nat → Prop) : Prop where
  s0 : d s = some 0
  le : ∀ v k, d v = some k → k ≤ m + 1 ∧ v < n
  par : ∀ v k, d v = some k → v ≠ s → ∃ u k', u < n ∧ Adj es u v ∧ d u = some k' ∧ k = k' + 1
  rimI : ∀ v, v ∈ rim ↔ d v = some m
  latI : ∀ v, v ∈ later ↔ d v = some (m + 1)
  cl : ∀ u k, d u = some k → (k < m ∨ (k = m ∧ done u)) → ∀ v, Adj es u v → ∃ k', d v = some k' ∧ k' ≤ k + 1
  ln : line.Nodup
  li : ∀ v, v ∈ line ↔ d v ≠ none
theorem Lev.start {es : List (Nat × Nat)} {n s : Nat} (h : s < n) : Lev es n s 0 (updF (fun _ => none) s (some 0)) [s] [s] [] fun _ => False where
  s0 := updF_same
  le := fun v k hv => by
    by_cases e : v = s
    · subst e; rw [updF_same] at hv; cases hv; exact ⟨by omega, h⟩
    · rw [updF_ne e] at hv; cases hv
  par := fun v k hv hne => by rw [updF_ne hne] at hv; cases hv
  rimI := fun v => by
    by_cases e : v = s
    · subst e; rw [updF_same]; simp
    · rw [updF_ne e]; simp [e]
  latI := fun v => by
    by_cases e : v = s
    · subst e; rw [updF_same]; simp
    · rw [updF_ne e]; simp
  cl := fun u k hu hk => by
    by_cases e : u = s
    · subst e; rw [updF_same] at hu; cases hu
      rcases hk with hk | ⟨_, hk⟩
      · omega
      · exact hk.elim
    · rw [updF_ne e] at hu; cases hu
  ln := by simp
  li := fun v => by
    by_cases e : v = s
    · subst e; rw [updF_same]; simp
    · rw [updF_ne e]; simp [e]
section
variable {es : List (Nat × Nat)} {n s m : Nat} {d : Nat → Option Nat} {line rim later : List Nat} {done : Nat → Prop}
theorem Lev.len (I : Lev es n s m d line rim later done) : line.length ≤ n := nodup_lt n line I.ln fun v hv => by
  obtain ⟨k, hk⟩ := Option.ne_none_iff_exists'.mp ((I.li v).mp hv)
  exact (I.le v k hk).2
theorem Lev.add (I : Lev es n s m d line rim later done) {c v : Nat} (hc : d c = some m) (ha : Adj es c v) (hv : v < n) (hd : d v = none) : Lev es n s m (updF d v (some (m + 1))) (line ++ [v]) rim (later ++ [v]) done := by
  have keep : ∀ u x, d u = some x → updF d v (some (m + 1)) u = some x := fun u x hu => by
    rw [updF_ne (fun e => by rw [e, hd] at hu; cases hu)]; exact hu
  refine ⟨keep _ _ I.s0, fun u k hu => ?_, fun u k hu hne => ?_, fun u => ?_, fun u => ?_, fun u k hu hk w hw => ?_, ?_, fun u => ?_⟩
  · by_cases e : u = v
    · subst e; rw [updF_same] at hu; cases hu; exact ⟨Nat.le_refl _, hv⟩
    · rw [updF_ne e] at hu; exact I.le u k hu
  · by_cases e : u = v
    · subst e; rw [updF_same] at hu; cases hu
      exact ⟨c, m, (I.le c m hc).2, ha, keep _ _ hc, rfl⟩
    · rw [updF_ne e] at hu
      obtain ⟨w, k', h1, h2, h3, h4⟩ := I.par u k hu hne
      exact ⟨w, k', h1, h2, keep _ _ h3, h4⟩
  · by_cases e : u = v
    · subst e
      rw [updF_same, I.rimI, hd]
      simp
    · rw [updF_ne e]; exact I.rimI u
  · rw [List.mem_append, List.mem_singleton, I.latI]
    by_cases e : u = v
    · subst e; rw [updF_same]; simp
    · rw [updF_ne e]; simp [e]
  · by_cases e : u = v
    · subst e; rw [updF_same] at hu; cases hu
      rcases hk with hk | ⟨hk, _⟩ <;> omega
    · rw [updF_ne e] at hu
      obtain ⟨k', h1, h2⟩ := I.cl u k hu hk w hw
      exact ⟨k', keep _ _ h1, h2⟩
  · refine List.nodup_append.mpr ⟨I.ln, by simp, fun x hx y hy => ?_⟩
    rw [List.mem_singleton] at hy
    subst hy
    rintro rfl
    exact (I.li x).mp hx hd
  · rw [List.mem_append, List.mem_singleton, I.li]
    by_cases e : u = v
    · subst e; rw [updF_same]; simp
    · rw [updF_ne e]; simp [e]
theorem Lev.more (I : Lev es n s m d line rim later done) {c : Nat} (hc : ∀ v, Adj es c v → d v ≠ none) : Lev es n s m d line rim later fun u => done u ∨ u = c :=
  ⟨I.s0, I.le, I.par, I.rimI, I.latI, fun u k hu hk v hv => by
    rcases hk with hk | ⟨hk, hk2 | hk2⟩
    · exact I.cl u k hu (.inl hk) v hv
    · exact I.cl u k hu (.inr ⟨hk, hk2⟩) v hv
    · subst hk2
      obtain ⟨k', h'⟩ := Option.ne_none_iff_exists'.mp (hc v hv)
      have := (I.le v k' h').1
      exact ⟨k', h', by omega⟩, I.ln, I.li⟩
theorem Lev.weak (I : Lev es n s m d line rim later done) {done' : Nat → Prop} (h : ∀ u, u ∈ rim → done' u → done u) : Lev es n s m d line rim later done' :=
  ⟨I.s0, I.le, I.par, I.rimI, I.latI, fun u k hu hk v hv => by
    rcases hk with hk | ⟨hk, hk2⟩
    · exact I.cl u k hu (.inl hk) v hv
    · exact I.cl u k hu (.inr ⟨hk, h u ((I.rimI u).mpr (hk ▸ hu)) hk2⟩) v hv, I.ln, I.li⟩
theorem Lev.step (I : Lev es n s m d line rim later done) (h : ∀ u ∈ rim, done u) : Lev es n s (m + 1) d line later [] fun _ => False :=
  ⟨I.s0, fun v k hv => ⟨by have := (I.le v k hv).1; omega, (I.le v k hv).2⟩, I.par, I.latI, fun v => ⟨fun h => (nomatch h), fun h => by have := (I.le v _ h).1; omega⟩, fun u k hu hk v hv => by
    rcases hk with hk | ⟨_, hk⟩
    · by_cases e : k = m
      · subst e
        exact I.cl u k hu (.inr ⟨rfl, h u ((I.rimI u).mpr hu)⟩) v hv
      · exact I.cl u k hu (.inl (by omega)) v hv
    · exact hk.elim, I.ln, I.li⟩
/-- distances: from one, by one step, no leap -/
structure DistL (es : List (Nat × Nat)) (n s : Nat) (f : Nat → Nat) : Prop where
  w : DistW es n s f
  lip : ∀ u v, u < n → v < n → Adj es u v → f v ≤ f u + 1
  lt : ∀ v, v < n → f v < n
theorem DistW.lt {f : Nat → Nat} (D : DistW es n s f) (hs : s < n) : ∀ v, v < n → f v < n := by
  have key : ∀ k v, v < n → f v = k → ∃ l : List Nat, l.Nodup ∧ (∀ x ∈ l, x < n ∧ f x ≤ k) ∧ l.length = k + 1 := by
    intro k
    induction k with
    | zero => exact fun v hv h => ⟨[v], by simp, fun x hx => by rw [List.mem_singleton] at hx; subst hx; exact ⟨hv, by omega⟩, rfl⟩
    | succ k ih =>
      intro v hv h
      have hne : v ≠ s := fun e => by subst e; rw [D.zero] at h; omega
      obtain ⟨u, hu, _, h1⟩ := D.up v hv hne
      obtain ⟨l, l1, l2, l3⟩ := ih u hu (by omega)
      refine ⟨v :: l, List.nodup_cons.mpr ⟨fun hm => ?_, l1⟩, fun x hx => ?_, by rw [List.length_cons, l3]⟩
      · have := (l2 v hm).2; omega
      · rcases List.mem_cons.mp hx with rfl | hx
        · exact ⟨hv, by omega⟩
        · exact ⟨(l2 x hx).1, by have := (l2 x hx).2; omega⟩
  intro v hv
  obtain ⟨l, l1, l2, l3⟩ := key _ v hv rfl
  have := nodup_lt n l l1 fun x hx => (l2 x hx).1
  omega
theorem Lev.fin (I : Lev es n s m d line [] later done) (hC : Conn es n) (hs : s < n) : ∃ f : Nat → Nat, (∀ v, v < n → d v = some (f v)) ∧ DistL es n s f := by
  have hlt : ∀ v k, d v = some k → k < m := by
    have no : ∀ v, d v ≠ some m := fun v h => nomatch (I.rimI v).mpr h
    intro v k h
    have h1 := (I.le v k h).1
    by_cases e : k = m + 1
    · subst e
      by_cases es2 : v = s
      · subst es2; rw [I.s0] at h; cases h
      · obtain ⟨u, k', _, _, h3, h4⟩ := I.par v _ h es2
        have : k' = m := by omega
        subst this
        exact absurd h3 (no u)
    · have : k ≠ m := fun e2 => no v (e2 ▸ h)
      omega
  have all : ∀ v, v < n → d v ≠ none := hC (fun v => d v ≠ none) ⟨s, hs, by rw [I.s0]; simp⟩ fun u v ha hu => by
    obtain ⟨k, hk⟩ := Option.ne_none_iff_exists'.mp hu
    obtain ⟨k', h', _⟩ := I.cl u k hk (.inl (hlt u k hk)) v ha
    rw [h']; simp
  have key : ∀ v, v < n → d v = some ((d v).getD 0) := fun v hv => by
    cases q : d v with
    | none => exact absurd q (all v hv)
    | some x => rfl
  have hW : DistW es n s fun v => (d v).getD 0 := by
    refine ⟨?_, fun v hv hne => ?_⟩
    · show (d s).getD 0 = 0
      rw [I.s0]; rfl
    · obtain ⟨u, k', h1, h2, h3, h4⟩ := I.par v _ (key v hv) hne
      refine ⟨u, h1, h2, ?_⟩
      show (d v).getD 0 = (d u).getD 0 + 1
      rw [h4, h3]; rfl
  refine ⟨fun v => (d v).getD 0, key, hW, fun u v hu hv ha => ?_, hW.lt hs⟩
  obtain ⟨k', h1, h2⟩ := I.cl u _ (key u hu) (.inl (hlt u _ (key u hu))) v ha
  show (d v).getD 0 ≤ _
  rw [h1]; exact h2
end
end Tr
end
section
set_option Elab.async false
set_option linter.all false
set_option maxRecDepth 100000
set_option maxHeartbeats 4000000
namespace Tr
open PySem PySem.Spec PyProof.Rows L2 Evl
section
variable {P : Program} {w : World} {K : PySem.W.Frag} {mg : Str → Option Value} {base : Heap}
def sp_far : Sp := fun vs H Q _ => ∃ (S : Hp) (v : V) (n first : Nat) (es : List (Nat × Nat)), vs = [v, .int (first : Int)] ∧ Ex S H ∧ WebV S v n es ∧ EdgesOk n es ∧ Conn es n ∧ first < n ∧
  RetG S H (fun r S' => ∃ f, LstA S' r (nV (tabN n f)) ∧ DistL es n first f) Q
theorem sp_far_ok {S : Hp} {v : V} {n first : Nat} {es : List (Nat × Nat)} (hW : WebV S v n es) (ok : EdgesOk n es) (hC : Conn es n) (hf : first < n) : SpG sp_far ([v, .int (first : Int)] ++ []) S fun r S' => ∃ f, LstA S' r (nV (tabN n f)) ∧ DistL es n first f := fun H e Q E q => ⟨S, v, n, first, es, rfl, e, hW, ok, hC, hf, q⟩
theorem ok__law_far (T : Tx K mg) : OkD P w K mg base 2 "_law_far" ["_law_web_here", "_law_first"] sp_far := by
  refine mk__law_far T (fun vs H Q E h => ?_) (fun f cdv A outer s H vs Q E hr h => ?_)
  · obtain ⟨S, v, n, fi, es, rfl, _⟩ := h
    rfl
  · obtain ⟨S, v, n, fi, es, rfl, eH, hW, ok, hC, hfi, q⟩ := h
    refine ⟨_, (pss_cons (ps_asg (pe_tup (pa_cons (pcall (ok__law_nears T) (hr.mono (by decide)) (pa_cons (pv 0) pa_nil)) (pa_cons (pe_op op_rep (pe_lst (pa_cons pe_non pa_nil)) (pe_ix (ixTK K) (pv 0) pe_int (fun _ _ => rfl))) (pa_cons (pe_lst (pa_cons (pv 1) pa_nil)) (pa_cons pe_int pa_nil))))) (pg_tup rfl (pgs_cons (pg_name (i := 2) sc__law_far.nd rfl (Or.inl rfl)) (pgs_cons (pg_name (i := 3) sc__law_far.nd rfl (Or.inl rfl)) (pgs_cons (pg_name (i := 4) sc__law_far.nd rfl (Or.inl rfl)) (pgs_cons (pg_name (i := 5) sc__law_far.nd rfl (Or.inl rfl)) pgs_nil))))))
    (pss_cons (ps_asg pe_int (pg_sub (pv 3) (pv 1) set_list))
    (pss_cons (ps_while PassesOwn.never (pt_cmpR (neDK K hr.units) (pv 4) (pe_lst pa_nil) (nomark _))
      (pss_cons (ps_par (i := 5) (j := 6) rfl sc__law_far.nd rfl rfl (by decide) rfl rfl (pa_cons (pe_op op_add (pv 5) pe_int) (pa_cons (pe_lst pa_nil) pa_nil)) (by rfl))
    (pss_cons (ps_for PassesOwn.never rfl (piLK K (pv 4)) (pg_name (i := 7) sc__law_far.nd rfl (Or.inl rfl))
      (pss_one (ps_for PassesOwn.never rfl (piLK K (pe_ix (ixLK K) (pv 2) (pv 7) (fun _ _ => rfl))) (pg_name (i := 8) sc__law_far.nd rfl (Or.inl rfl))
      (pss_one (ps_if (pt_cmpR op_isN (pe_ix (ixLK K) (pv 3) (pv 8) (fun _ _ => rfl)) pe_non (nomark _))
      (pss_cons (ps_asg (pv 5) (pg_sub (pv 3) (pv 8) set_list))
    (pss_one (ps_expr (pe_bm PySem.F.plainAttrs_list PySem.F.slot_list_append PySem.F.type_list_append mt_append (pv 6) (pa_cons (pv 8) pa_nil)))))
      pss_nil)))))
    (pss_one (ps_set (i := 4) sc__law_far.nd rfl (.inl rfl) (pv 6))))))
    (pss_one (ps_ret (pv 3)))))), ?_⟩
    obtain ⟨b, hT, hB⟩ := id hW
    have hhi := ok.hi
    refine eg_call (ea_cons (ev_var rfl) ea_nil) (sp_nears_ok hW ok) H eH _ fun nr S1 H1 g1 hN => ?_
    refine ⟨by show 1 ≤ sizeLine; decide, fun tmp htmp => ?_⟩
    have g2 : Gr [] S H S1 (upd H1 tmp (.lst [.non])) := g1.trans (Gr.lay g1.i htmp)
    refine ev_ixT (j := 0) (ev_var rfl) ev_c (hT.mono g1.s) rfl _ g2.i _ fun H2 e2 => ?_
    refine ⟨tmp, (n : Int), [.non], rfl, rfl, e2 _ _ upd_same, by omega, by omega, ?_, fun fnd hfnd => ?_⟩
    · have e : ((n : Int)).toNat = n := by omega
      rw [e]
      show 1 * n ≤ sizeLine
      exact sz_of (by omega)
    have g3 : Gr [] S H S1 H2 := g2.trans (Gr.of_ex g2.i e2)
    have en : ((n : Int)).toNat = n := by omega
    rw [en, rep_none]
    have g4 : Gr [] S H S1 (upd H2 fnd (.lst (fV n fun _ => none))) := g3.trans (Gr.lay g3.i hfnd)
    refine ⟨.int (fi : Int), rfl, by show 1 ≤ sizeLine; decide, fun ra hra => ?_⟩
    have hne : fnd ≠ ra := fun z => by rw [z, upd_same] at hra; cases hra
    have g5 : Gr [] S H S1 (upd (upd H2 fnd (.lst (fV n fun _ => none))) ra (.lst [.int (fi : Int)])) := g4.trans (Gr.lay g4.i hra)
    have hHf : H fnd = none := g3.fr eH hfnd
    have hHr : H ra = none := g4.fr eH hra
    have hSf : S1 fnd = none := g3.frS hfnd
    have hSr : S1 ra = none := g4.frS hra
    have h5f : upd (upd H2 fnd (.lst (fV n fun _ => none))) ra (.lst [.int (fi : Int)]) fnd = some (.lst (fV n fun _ => none)) := (upd_ne hne).trans upd_same
    have h5r : upd (upd H2 fnd (.lst (fV n fun _ => none))) ra (.lst [.int (fi : Int)]) ra = some (.lst (nV [fi])) := upd_same
    generalize upd (upd H2 fnd (.lst (fV n fun _ => none))) ra (.lst [.int (fi : Int)]) = H5 at g5 h5f h5r ⊢
    refine ⟨by show 4 ≤ sizeLine; decide, fun tp htp => ?_⟩
    have g6 : Gr [] S H S1 (upd H5 tp (.tup [nr, .ref fnd, .ref ra, .int 0])) := g5.trans (Gr.lay g5.i htp)
    have h6f : upd H5 tp (.tup [nr, .ref fnd, .ref ra, .int 0]) fnd = some (.lst (fV n fun _ => none)) := by rw [upd_ne (ne_of_none h5f htp)]; exact h5f
    have h6r : upd H5 tp (.tup [nr, .ref fnd, .ref ra, .int 0]) ra = some (.lst (nV [fi])) := by rw [upd_ne (ne_of_none h5r htp)]; exact h5r
    refine ⟨tp, _, rfl, st_of upd_same, rfl, nr, _, rfl, .ref fnd, _, rfl, .ref ra, _, rfl, .int 0, _, rfl, rfl, ?_⟩
    generalize upd H5 tp (.tup [nr, .ref fnd, .ref ra, .int 0]) = H6 at g6 h6f h6r ⊢
    show tSeq _ _ _ [some v, some (.int (fi : Int)), some nr, some (.ref fnd), some (.ref ra), some (.int 0), none, none, none] H6
    refine q_setL (l := fnd) (xs := fV n fun _ => none) (j := fi) (v := .int 0) h6f ev_c (ev_var rfl) (ev_var rfl) (by rw [fV_len]; exact hfi) (fun H7 e7 => ?_)
    have e0 : (fV n fun _ => none).set fi (.int 0) = fV n (updF (fun _ => none) fi (some 0)) := fV_set n _ fi 0
    rw [e0]
    have g7 := (g6.trans (Gr.of_ex g6.i e7)).put (p := fnd) (u := .lst (fV n (updF (fun _ => none) fi (some 0)))) (.inl hHf) hSf
    have h7r : upd H7 fnd (.lst (fV n (updF (fun _ => none) fi (some 0)))) ra = some (.lst (nV [fi])) := by rw [upd_ne (Ne.symm hne)]; exact e7 _ _ h6r
    have h7f : upd H7 fnd (.lst (fV n (updF (fun _ => none) fi (some 0)))) fnd = some (.lst (fV n (updF (fun _ => none) fi (some 0)))) := upd_same
    generalize upd H7 fnd (.lst (fV n (updF (fun _ => none) fi (some 0)))) = H8 at g7 h7f h7r ⊢
    obtain ⟨rows, xss, ⟨an, en1, han⟩, hrows⟩ : ∃ rows xss, LstA S1 nr rows ∧ (Paired (fun x xs => LstA S1 x (nV xs)) rows xss ∧ xss.length = n ∧ ∀ (k : Nat) (xs : List Nat), xss[k]? = some xs → xs.Perm (nb es k)) := by
      obtain ⟨xss, ⟨rows, h1, h2⟩, h3, h4⟩ := hN
      exact ⟨rows, xss, h1, h2, h3, h4⟩
    obtain ⟨hrp, hxl, hxp⟩ := hrows
    subst en1
    refine q_while (fun M σ' H' => ∃ (m : Nat) (d : Nat → Option Nat) (line rim : List Nat) (ra : Addr) (y1 y2 y3 : Option V), σ' = [some v, some (.int (fi : Int)), some (.ref an), some (.ref fnd), some (.ref ra), some (.int (m : Int)), y1, y2, y3] ∧ Gr [] S H S1 H' ∧ H' fnd = some (.lst (fV n d)) ∧ H' ra = some (.lst (nV rim)) ∧ S1 ra = none ∧ ra ≠ fnd ∧ Lev es n fi m d line rim [] (fun _ => False) ∧ M = 2 * (n - line.length) + (if rim.isEmpty = true then 0 else 1)) (2 * (n - 1) + 1)
      ⟨0, _, [fi], [fi], ra, none, none, none, rfl, g7, h7f, h7r, hSr, Ne.symm hne, Lev.start hfi, rfl⟩ ?_
    rintro M σ' H' ⟨m, d, line, rim, ra, y1, y2, y3, rfl, gg, hf, hl, hSr, hrf, I, rfl⟩
    have hlr : LstA H' (.ref ra) (iV (rim.map fun k : Nat => (k : Int))) := ⟨ra, rfl, by rw [← nV_iV]; exact hl⟩
    refine ⟨!(rim.map fun k : Nat => (k : Int)).isEmpty, et_test (ev_neNil (ev_var rfl) hlr), fun hb H8 e8 => ?_, fun hb H8 e8 => ?_⟩
    · have hrim : rim.isEmpty = false := by
        cases rim with
        | nil => cases hb
        | cons => rfl
      have hn := I.len
      have gg8 : Gr [] S H S1 H8 := gg.trans (Gr.of_ex gg.i e8)
      have hf8 := e8 _ _ hf
      have hl8 := e8 _ _ hl
      refine ⟨_, fun σ2 H2 hN => hN, ?_⟩
      show tSeq _ _ _ [some v, some (.int (fi : Int)), some (.ref an), some (.ref fnd), some (.ref ra), some (.int (m : Int)), y1, y2, y3] H8
      refine x_seq (x_par (x_cons (x_ev (v := .int ((m + 1 : Nat) : Int)) (ev_is (ev_op (x := .int (m : Int)) (y := .int 1) (ev_var rfl) ev_c rv_I0) (by rw [Int.natCast_add]; rfl)) fun H8' e8' => ?_)))
      replace gg8 := gg8.trans (Gr.of_ex gg8.i e8')
      replace hf8 := e8' _ _ hf8
      replace hl8 := e8' _ _ hl8
      refine x_cons (x_lst (x_nil ⟨by show 0 ≤ sizeLine; omega, fun la hla => x_nil ⟨_, _, rfl, ?_⟩⟩))
      have hHl : H la = none := gg8.fr eH hla
      have hSl : S1 la = none := gg8.frS hla
      have hlf : la ≠ fnd := fun e => by rw [e, hf8] at hla; cases hla
      have hlra : la ≠ ra := fun e => by rw [e, hl8] at hla; cases hla
      have gg9 : Gr [] S H S1 (upd H8' la (.lst [])) := gg8.trans (Gr.lay gg8.i hla)
      have hf9 : upd H8' la (.lst []) fnd = some (.lst (fV n d)) := by rw [upd_ne (Ne.symm hlf)]; exact hf8
      have hr9 : upd H8' la (.lst []) ra = some (.lst (nV rim)) := by rw [upd_ne (Ne.symm hlra)]; exact hl8
      have hl9 : upd H8' la (.lst []) la = some (.lst (nV [])) := upd_same
      generalize upd H8' la (.lst []) = H9 at gg9 hf9 hr9 hl9 ⊢
      dsimp only
      show tSeq _ _ _ [some v, some (.int (fi : Int)), some (.ref an), some (.ref fnd), some (.ref ra), some (.int ((m + 1 : Nat) : Int)), some (.ref la), y2, y3] H9
      have exR : Ex (upd S1 ra (.lst (nV rim))) H9 := fun b o h => by
        by_cases e : b = ra
        · subst e; rw [upd_same] at h; rw [hr9]; exact h
        · rw [upd_ne e] at h; exact gg9.i b o h
      have sRf : upd S1 ra (.lst (nV rim)) fnd = none := by rw [upd_ne (Ne.symm hrf)]; exact hSf
      have sRl : upd S1 ra (.lst (nV rim)) la = none := by rw [upd_ne hlra]; exact hSl
      refine for_turns (n := (nV rim).length) (u := fun i σ' => σ'.set 7 (some ((nV rim).getD i .non))) (S := upd S1 ra (.lst (nV rim)))
        (turns_listAt (a := ra) (xs := nV rim) (ev_var rfl) exR (sq_of upd_same) (tab_turn (K := K)))
        (fun S3 i σ' H' => ∃ (d' : Nat → Option Nat) (line' later : List Nat) (y2 y3 : Option V), σ' = [some v, some (.int (fi : Int)), some (.ref an), some (.ref fnd), some (.ref ra), some (.int ((m + 1 : Nat) : Int)), some (.ref la), y2, y3] ∧ Ex S3 H' ∧ Ex S1 S3 ∧ S3 fnd = none ∧ S3 la = none ∧ Gr [] S H S1 H' ∧ H' fnd = some (.lst (fV n d')) ∧ H' la = some (.lst (nV later)) ∧
          Lev es n fi m d' line' rim later (fun u => u ∈ rim.take i) ∧ line'.length = line.length + later.length)
        (fun S3 H3 g3 => ⟨d, line, [], y2, y3, rfl, g3.i, (Ex.new hSr).trans g3.s, g3.f _ sRf (by rw [hf9]; simp), g3.f _ sRl (by rw [hl9]; simp), gg9.trans (Gr.of_ex gg9.i g3.ex), g3.ex _ _ hf9, g3.ex _ _ hl9, I.weak (fun u _ h => by simp at h), rfl⟩)
        (fun S3 i σ' H' ⟨_, _, _, _, _, _, x, _⟩ => x) ?_ ?_
      · rintro S3 i σ' H' hi ⟨d', line', later, y2, y3, rfl, x3, x13, h3f, h3l, gS, hfd, hld, I', hlen⟩ H10 e10
        rw [nV_len] at hi
        have hri : rim[i]? = some rim[i] := List.getElem?_eq_getElem hi
        have exi : (nV rim).getD i .non = .int (rim[i] : Int) := getD_of (nV_get hri)
        rw [exi]
        generalize hc : rim[i] = c at hri ⊢
        have hdc : d' c = some m := (I'.rimI c).mp (List.mem_of_getElem? hri)
        have hcn := (I'.le c m hdc).2
        obtain ⟨xs, hxs⟩ : ∃ xs, xss[c]? = some xs := ⟨xss[c]'(by omega), List.getElem?_eq_getElem (by omega)⟩
        obtain ⟨row, hrow, ar, ear, har⟩ := pgetR hrp hxs
        subst ear
        have hperm := hxp c xs hxs
        have x10 := x3.trans e10
        have gS10 := gS.trans (Gr.of_ex gS.i e10)
        have hf10 := e10 _ _ hfd
        have hl10 := e10 _ _ hld
        have tk : ∀ u, u ∈ rim.take (i + 1) → u ∈ rim.take i ∨ u = c := fun u hu => by
          rw [List.take_add_one, hri] at hu
          simpa using hu
        show tFor _ _ _ _ [some v, some (.int (fi : Int)), some (.ref an), some (.ref fnd), some (.ref ra), some (.int ((m + 1 : Nat) : Int)), some (.ref la), some (.int (c : Int)), y3] H10
        refine for_turns (n := (nV xs).length) (u := fun i σ' => σ'.set 8 (some ((nV xs).getD i .non))) (S := S3)
          (turns_listAt (a := ar) (xs := nV xs) (ev_ixL (x := .ref an) (j := c) (xs := rows) (ev_var rfl) (ev_var rfl) ⟨an, rfl, x10 _ _ (x13 _ _ han)⟩ hrow) x10 (sq_of (x13 _ _ har)) (tab_turn (K := K)))
          (fun S4 j σ' H' => ∃ (d' : Nat → Option Nat) (line' later : List Nat) (y3 : Option V), σ' = [some v, some (.int (fi : Int)), some (.ref an), some (.ref fnd), some (.ref ra), some (.int ((m + 1 : Nat) : Int)), some (.ref la), some (.int (c : Int)), y3] ∧ Ex S4 H' ∧ Ex S3 H' ∧ S4 fnd = none ∧ S4 la = none ∧ Gr [] S H S1 H' ∧ H' fnd = some (.lst (fV n d')) ∧ H' la = some (.lst (nV later)) ∧
            Lev es n fi m d' line' rim later (fun u => u ∈ rim.take i) ∧ line'.length = line.length + later.length ∧ ∀ u ∈ xs.take j, d' u ≠ none)
          (fun S4 H4 g4 => ⟨d', line', later, y3, rfl, g4.i, x10.trans g4.ex, g4.f _ h3f (by rw [hf10]; simp), g4.f _ h3l (by rw [hl10]; simp), gS10.trans (Gr.of_ex gS10.i g4.ex), g4.ex _ _ hf10, g4.ex _ _ hl10, I', hlen, fun u hu => by simp at hu⟩)
          (fun S4 j σ' H' ⟨_, _, _, _, _, x, _⟩ => x) ?_ ?_
        · rintro S4 j σ' H' hj ⟨d', line', later, y3, rfl, x4, x34, h4f, h4l, gS, hfd, hld, I', hlen, hx'⟩ H11 e11
          rw [nV_len] at hj
          have hxi : xs[j]? = some xs[j] := List.getElem?_eq_getElem hj
          have exi : (nV xs).getD j .non = .int (xs[j] : Int) := getD_of (nV_get hxi)
          rw [exi]
          generalize hz : xs[j] = z at hxi ⊢
          have hadj : Adj es c z := mem_nb.mp (hperm.mem_iff.mp (List.mem_of_getElem? hxi))
          have hzn : z < n := by
            rcases hadj with q | q
            · exact (ok.ok _ q).2
            · have := ok.ok _ q; omega
          have hdc : d' c = some m := (I'.rimI c).mp (List.mem_of_getElem? hri)
          have x411 := x4.trans e11
          have x311 := x34.trans e11
          have gS11 := gS.trans (Gr.of_ex gS.i e11)
          have hf11 := e11 _ _ hfd
          have hl11 := e11 _ _ hld
          have tk2 : ∀ u ∈ xs.take (j + 1), u ∈ xs.take j ∨ u = z := fun u hu => by
            rw [List.take_add_one, hxi] at hu
            simpa using hu
          have hll := I'.len
          show tIfS _ _ _ _ [some v, some (.int (fi : Int)), some (.ref an), some (.ref fnd), some (.ref ra), some (.int ((m + 1 : Nat) : Int)), some (.ref la), some (.int (c : Int)), some (.int (z : Int))] H11
          refine s_when (b := decide (optV (d' z) = .non)) (et_test (ev_op (x := optV (d' z)) (ev_ixL (x := .ref fnd) (j := z) (ev_var rfl) (ev_var rfl) ⟨fnd, rfl, hf11⟩ (fV_get hzn)) ev_c (fun H1 _ Q q => ⟨rfl, q H1 (Ex.refl H1)⟩))) (fun hb H12 e12 => ?_) (fun hb H12 e12 => ?_)
          · have hdz : d' z = none := by
              have := of_decide_eq_true hb
              cases q : d' z with
              | none => rfl
              | some x => rw [q] at this; cases this
            have hf12 := e12 _ _ hf11
            have hl12 := e12 _ _ hl11
            refine q_setL (l := fnd) (xs := fV n d') (j := z) (v := .int ((m + 1 : Nat) : Int)) hf12 (ev_var rfl) (ev_var rfl) (ev_var rfl) (by rw [fV_len]; exact hzn) (fun H13 e13 => ?_)
            rw [fV_set]
            have x413 := ((x411.trans e12).trans e13).mut (o := .lst (fV n (updF d' z (some (m + 1))))) h4f
            have x313 := ((x311.trans e12).trans e13).mut (o := .lst (fV n (updF d' z (some (m + 1))))) h3f
            have gS13 := (gS11.trans (Gr.of_ex gS11.i (e12.trans e13))).put (p := fnd) (u := .lst (fV n (updF d' z (some (m + 1))))) (.inl hHf) hSf
            refine s_app (l := la) (xs := nV later) (v := .int (z : Int)) ?_ (ev_var rfl) (ev_var rfl) ?_ (fun H14 e14 => ?_)
            · rw [upd_ne hlf]; exact e13 _ _ hl12
            · rw [nV_len]; omega
            · have I2 := I'.add hdc hadj hzn hdz
              refine ⟨updF d' z (some (m + 1)), line' ++ [z], later ++ [z], _, rfl, (x413.trans e14).mut h4l, (x313.trans e14).mut h3l, h4f, h4l, (gS13.trans (Gr.of_ex gS13.i e14)).put (.inl hHl) hSl, ?_, by rw [upd_same, nV_snoc], I2, by rw [List.length_append, List.length_append, hlen, Nat.add_assoc], fun u hu => ?_⟩
              · rw [upd_ne (Ne.symm hlf)]; exact e14 _ _ upd_same
              · by_cases e : u = z
                · subst e; rw [updF_same]; simp
                · rw [updF_ne e]
                  exact (tk2 u hu).elim (hx' u) (fun q => absurd q e)
          · refine ⟨d', line', later, _, rfl, x411.trans e12, x311.trans e12, h4f, h4l, gS11.trans (Gr.of_ex gS11.i e12), e12 _ _ hf11, e12 _ _ hl11, I', hlen, fun u hu => ?_⟩
            rcases tk2 u hu with q | q
            · exact hx' u q
            · subst q
              intro z2
              have := of_decide_eq_false hb
              rw [z2] at this
              exact this rfl
        · rintro S4 σ' H' ⟨d', line', later, y3, rfl, x4, x34, h4f, h4l, gS, hfd, hld, I', hlen, hx'⟩
          rw [nV_len, List.take_length] at hx'
          refine ⟨d', line', later, _, _, rfl, x34, x13, h3f, h3l, gS, hfd, hld, (I'.more (c := c) fun u ha => hx' u (hperm.mem_iff.mpr (mem_nb.mpr ha))).weak (fun u _ hu => tk u hu), hlen⟩
      · rintro S3 σ' H' ⟨d', line', later, y2, y3, rfl, x3, x13, h3f, h3l, gS, hfd, hld, I', hlen⟩
        rw [nV_len, List.take_length] at I'
        show tAsg (tVar 6) (gName 4) _ [some v, some (.int (fi : Int)), some (.ref an), some (.ref fnd), some (.ref ra), some (.int ((m + 1 : Nat) : Int)), some (.ref la), y2, y3] H'
        refine s_asg (v := .ref la) (ev_var rfl) (fun H14 e14 => ?_)
        have hll := I'.len
        refine ⟨_, ?_, m + 1, d', line', later, la, _, _, _, rfl, gS.trans (Gr.of_ex gS.i e14), e14 _ _ hfd, e14 _ _ hld, hSl, hlf, I'.step (fun u hu => hu), rfl⟩
        rw [hrim]
        cases later with
        | nil =>
          rw [List.length_nil] at hlen
          show 2 * (n - line'.length) + 0 < 2 * (n - line.length) + 1
          omega
        | cons x r =>
          rw [List.length_cons] at hlen
          show 2 * (n - line'.length) + 1 < 2 * (n - line.length) + 1
          omega
    · have hrim : rim = [] := by
        cases rim with
        | nil => rfl
        | cons => cases hb
      subst hrim
      obtain ⟨f', hf', hD⟩ := I.fin hC hfi
      have gg8 := gg.trans (Gr.of_ex gg.i e8)
      refine s_ret (v := .ref fnd) (ev_var rfl) (fun H9 e9 => ?_)
      have gg9 := gg8.trans (Gr.of_ex gg8.i e9)
      have h9 : H9 fnd = some (.lst (nV (tabN n f'))) := by rw [← fV_all hf']; exact e9 _ _ (e8 _ _ hf)
      exact q _ _ H9 (gg9.fix hHf h9) ⟨f', ⟨fnd, rfl, upd_same⟩, hD⟩
end
end Tr
end
section
set_option Elab.async false
set_option linter.all false
set_option maxRecDepth 100000
set_option maxHeartbeats 4000000
/-! sorted of tuples of ints, any number of them: a new list of the same, in some order. -/
namespace Tr
open PySem PySem.Spec PyProof.Rows L2 Evl
section
variable {prog : Program} {w : World} {A : Around} {s : Shared}
theorem kat_ints {Q : Bool → Shared → Prop} {xs : List Value} {ns : List Int} (hx : IntsAre xs ns) : ∀ {ys : List Value} {ms : List Int} (i : Nat), IntsAre ys ms → ns.length = ms.length → Q (HT.lexLt ns ms) s →
    PySem.W.KatLex prog w A true false Q (xs.zip ys) i s := by
  induction hx with
  | nil =>
    intro ys ms i hy hl h
    cases hy with
    | nil => exact h
    | cons => simp at hl
  | @cons p t xs ns hx ih =>
    intro ys ms i hy hl h
    cases hy with
    | nil => simp at hl
    | @cons q u ys ms hy =>
      have hl' : ns.length = ms.length := by simpa using hl
      show PySem.W.KatLex prog w A true false Q ((Value.int p t, Value.int q u) :: xs.zip ys) i s
      refine PySem.W.kat_cons (wpAny_eqBool_int ?_)
      rw [HT.lexLt_cons] at h
      by_cases e : p = q
      · subst e
        rw [beq_self_eq_true]
        rw [if_pos rfl] at h
        exact PySem.W.kat_yes (ih (i + 1) hy hl' h)
      · rw [show (p == q) = false from beq_eq_false_iff_ne.mpr e]
        rw [if_neg e] at h
        exact PySem.W.kat_no (TS.oneLt_ints _ h)
theorem tups_cmp {vs : List Value} {k : Value → List Int} {d : Nat} (hv : ∀ v ∈ vs, TS.TupInts s.heap v (k v) ∧ (k v).length = d) : SrtO.Cmp prog w A s (tuples' true) (fun p => p.1 ∈ vs) (SrtO.lt2 fun v u => HT.lexLt (k v) (k u)) := by
  intro p q hm hm'
  obtain ⟨⟨a, xs, ea, ⟨o, ho, hc, n, hd⟩, ia⟩, la⟩ := hv _ hm
  obtain ⟨⟨b, ys, eb, ⟨o2, ho2, hc2, n2, hd2⟩, ib⟩, lb⟩ := hv _ hm'
  show wpAny (model prog w) A (keyLt' (tuples' true) p.1 q.1) (fun r s' => s' = s ∧ r = HT.lexLt (k p.1) (k q.1)) (fun _ _ => False) s
  generalize k p.1 = ns at ia la ⊢
  generalize k q.1 = ms at ib lb ⊢
  rw [ea, eb]
  have l1 := ia.length
  have l2 := ib.length
  rw [Array.length_toList] at l1 l2
  refine PySem.W.kat_lt ho hd ho2 hd2 ?_
  rw [decide_eq_false (by omega)]
  exact kat_ints ia 0 ib (by omega) ⟨rfl, rfl⟩
theorem tups_firsts {h : Heap} {k : Value → List Int} {d : Nat} (hd : 1 ≤ d) : ∀ vs : List Value, (∀ v ∈ vs, TS.TupInts h v (k v) ∧ (k v).length = d) → ∃ fs, PySem.W.KatTups h vs fs ∧ fs.length = vs.length ∧ ∀ f, f ∈ fs → ∃ n t, f = Value.int n t
  | [], _ => ⟨[], PySem.W.KatTups.nil, rfl, fun f hf => by simp at hf⟩
  | v :: vs, x => by
    obtain ⟨fs, kk, hl, hi⟩ := tups_firsts hd vs fun u hu => x u (List.mem_cons_of_mem _ hu)
    obtain ⟨⟨a, xs, rfl, ⟨o, ho, hc, n, hdt⟩, i⟩, hn⟩ := x v (List.mem_cons_self ..)
    obtain ⟨y, ys, e⟩ : ∃ y ys, xs.toList = y :: ys := by
      cases q : xs.toList with
      | nil =>
        rw [q] at i
        have l := i.length
        rw [List.length_nil, hn] at l
        omega
      | cons y ys => exact ⟨y, ys, rfl⟩
    obtain ⟨m, t, hy⟩ := i.all y (by rw [e]; exact List.mem_cons_self ..)
    refine ⟨y :: fs, PySem.W.KatTups.cons ho hc hdt ?_ kk, by simp [hl], ?_⟩
    · have z := congrArg (fun l : List Value => l[0]?) e
      simpa using z
    · intro f hf
      rcases List.mem_cons.mp hf with rfl | hf
      · exact ⟨m, t, hy⟩
      · exact hi f hf
theorem tups_sortable {a : Addr} {vs : List Value} {k : Value → List Int} {d : Nat} (hd : 1 ≤ d) (h0 : 0 < vs.length) (hp : ∀ v ∈ vs, TS.TupInts s.heap v (k v) ∧ (k v).length = d) (ha : ∀ o, s.heap.get? a = some o → o.cls ≠ .type "tuple") : SrtO.SortableO prog w A s a vs fun v u => HT.lexLt (k v) (k u) := by
  intro h' keep
  have hp' : ∀ v ∈ vs, TS.TupInts h' v (k v) ∧ (k v).length = d := fun v hm => ⟨(hp v hm).1.keeps fun b o e c => keep b o (fun z => by subst z; exact ha o e c) e, (hp v hm).2⟩
  obtain ⟨fs, h1, h2, h3⟩ := tups_firsts hd vs hp'
  refine ⟨tuples' true, fun Q E hq => ?_, tups_cmp (s := { s with heap := h' }) hp'⟩
  refine PySem.W.kat_kind (T := .type "int") h1 (by omega) (fun f hm => ?_) (by rfl) ?_
  · obtain ⟨x, t, rfl⟩ := h3 f hm
    exact PySem.W.Looks.now
  · have e : (Value.type "int" != Value.type "tuple") = true := by first | decide +kernel | rfl | decide
    rw [e]
    exact hq
end
def rSortedTU (K : PySem.W.Frag) : List V → Hp → VK → Prop := fun vs H Q => ∃ (a : Addr) (xs : List V) (d : Nat), vs = [V.ref a] ∧ SqL K H a xs ∧ 1 ≤ d ∧ (∀ x ∈ xs, ∃ ns : List Int, TupI K H x ns ∧ ns.length = d) ∧
  ∀ (ys : List V) (p : Addr), ys.Perm xs → H p = none → Q (.ref p) (upd H p (.lst ys))
section
variable {X : Cx}
theorem cr_sortedTU : CallR X (.builtin "sorted") (rSortedTU X.K) := by
  intro pins s σ H vs us Q I r h
  obtain ⟨a, xs, d, rfl, hs, hd, hx, q⟩ := h
  obtain ⟨its, rv, hl, hz⟩ := I.list hs
  rw [Vals.ref1 r]
  obtain ⟨e1, e2⟩ := bkV_refs rv fun x m => by
    obtain ⟨ns, ⟨t, e, _⟩, _⟩ := hx x m
    exact ⟨t, e⟩
  have hk : ∀ v ∈ its, TS.TupInts s.heap v (TS.intsOf s.heap v) ∧ (TS.intsOf s.heap v).length = d := fun v hv => by
    obtain ⟨t, rfl⟩ := e2 v hv
    have hm : V.ref t ∈ xs := by
      rw [e1]
      exact List.mem_map.mpr ⟨_, hv, rfl⟩
    obtain ⟨ns, ⟨t', e, ht⟩, hn⟩ := hx _ hm
    cases e
    have hT := tupI_raw I ht
    rw [hT.ints]
    exact ⟨hT, hn⟩
  refine SrtO.sorted_ord (NtL.swo_lexL fun u => TS.intsOf s.heap u) hl.isList (by rw [← rv.length]; exact hz) (fun h2 h₁ a' ha' kk => tups_sortable (s := { s with heap := h₁ }) hd (by omega) (fun v hv => ⟨(hk v hv).1.keeps fun b o e _ => (kk b o e).2, (hk v hv).2⟩) fun o e => ?_) fun out h1 h2 => ?_
  · have e' : some o = some (seqObj "list" its.toArray 0) := e.symm.trans ha'
    cases e'
    intro c
    exact absurd (Value.type.inj c) (by decide)
  · obtain ⟨ep, he'⟩ := PyProof.Rows.sortedAll_at s.heap its out.toArray
    have h3 : ∀ u ∈ out, ∃ a, u = Value.ref a := fun u hu => e2 u (h2.perm.mem_iff.mp hu)
    have hp : (out.map bkV).Perm xs := by
      rw [e1]
      exact h2.perm.map bkV
    have hlen : (out.map bkV).length ≤ sizeLine := by
      rw [hp.length_eq]
      exact hz
    exact ⟨.ref _, upd H (s.heap.objs.size + 1) (.lst (out.map bkV)), I.laid (t' := s.toks) (fun _ _ => PyProof.Rows.sortedAll_old) (Nat.le_succ _) ⟨hlen, out, ep, bkV_vals h3, he'⟩, rfl, q _ _ hp (I.hok.fresh (Nat.le_succ _))⟩
theorem sortedTUK (K : PySem.W.Frag) (h : X.K = K := by rfl) : CallR X (.builtin "sorted") (rSortedTU K) := h ▸ cr_sortedTU
theorem sortedPOK (K : PySem.W.Frag) (h : X.K = K := by rfl) : CallR X (.builtin "sorted") (rSortedPO K) := h ▸ cr_sortedPO
end
end Tr
end
section
set_option Elab.async false
set_option linter.all false
set_option maxRecDepth 100000
set_option maxHeartbeats 4000000
namespace Tr
open PySem PySem.Spec PyProof.Rows L2 Evl
theorem units65 {A : Around} {k : Nat} (hr : Room k A) : A.units + 65 < cLine := by have := hr.un; omega
section
variable {K : PySem.W.Frag} {σ : L2.St} {S H : Hp} {te tn th : TE} {ta : TA}
theorem eg_tup {Pa : List V → Hp → Prop} (h : EvAG ta σ S Pa) (hl : ∀ vs S', Pa vs S' → vs.length ≤ 100000) (mono : ∀ vs A B, Ex A B → Pa vs A → Pa vs B) : EvG (tTup ta) σ S fun v S' => ∃ vs, TupA S' v vs ∧ Pa vs S' := fun H e Q q =>
  h H e _ fun vs S1 H1 g p => ⟨sz_of (hl vs S1 p), fun l hn => q (.ref l) (upd S1 l (.tup vs)) _ (g.trans (Gr.new g.i hn)) ⟨vs, ⟨l, rfl, upd_same⟩, mono _ _ _ (Ex.new (fresh_back g.i hn)) p⟩⟩
theorem eg_callG {sp : Sp} {E : XK} {Pa : List V → Hp → Prop} {P : V → Hp → Prop} (h : EvAG ta σ S Pa) (hs : ∀ vs S1, Ex S S1 → Pa vs S1 → SpG sp (vs ++ []) S1 P) : EvG (tCall sp [] E ta) σ S P := fun H e Q q =>
  h H e _ fun vs S1 H1 g p => hs vs S1 g.s p H1 g.i Q E fun v S2 H2 g2 p2 => q v S2 H2 (g.trans g2) p2
theorem eg_tupOfP {R : List (Nat × Nat) → Prop} (h : EvG te σ S fun v S' => ∃ es, PairsL S' v es ∧ R es) : EvG (tCB (rTupOf K) (tCons te tNil)) σ S fun v S' => ∃ es, PairsT S' v es ∧ R es := fun H e Q q =>
  h H e _ fun v S1 H1 g ⟨es, ⟨ps, ⟨a, ev, ha⟩, hp⟩, hR⟩ => ⟨a, ps, by rw [ev], .inl ⟨ex_l g.i (sq_of ha), fun l hl => q (.ref l) (upd S1 l (.tup ps)) _ (g.trans (Gr.new g.i hl)) ⟨es, ⟨ps, ⟨l, rfl, upd_same⟩, hp.mono fun _ _ z => z.mono (Ex.new (fresh_back g.i hl))⟩, hR⟩⟩⟩
/-- the pair at a value -/
def kAt (H : Hp) : V → Int × Int
  | .ref t => match H t with
    | some (.tup [.int i, .int j]) => (i, j)
    | _ => (0, 0)
  | _ => (0, 0)
theorem kAt_of {v : V} {e : Nat × Nat} (h : PairV H v e) : kAt H v = ((e.1 : Int), (e.2 : Int)) := by
  obtain ⟨a, rfl, ha⟩ := h
  unfold kAt
  simp only [ha]
theorem paired_map {α β : Type} {F : α → β → Prop} {g : α → β} (hg : ∀ x y, F x y → g x = y) : ∀ {l1 : List α} {l2 : List β}, Paired F l1 l2 → l1.map g = l2
  | _, _, .nil => rfl
  | _, _, .cons r t => by rw [List.map_cons, hg _ _ r, paired_map hg t]
theorem paired_of {α β : Type} {F : α → β → Prop} {g : α → β} : ∀ {l : List α}, (∀ x ∈ l, F x (g x)) → Paired F l (l.map g)
  | [], _ => .nil
  | x :: r, h => .cons (h x (List.mem_cons_self ..)) (paired_of fun y hy => h y (List.mem_cons_of_mem _ hy))
theorem paired_mem {α β : Type} {F : α → β → Prop} : ∀ {l1 : List α} {l2 : List β}, Paired F l1 l2 → ∀ x ∈ l1, ∃ y ∈ l2, F x y
  | _, _, .nil, x, h => nomatch h
  | _, _, .cons r t, x, h => by
    rcases List.mem_cons.mp h with rfl | h
    · exact ⟨_, List.mem_cons_self .., r⟩
    · obtain ⟨y, h1, h2⟩ := paired_mem t x h
      exact ⟨y, List.mem_cons_of_mem _ h1, h2⟩
/-- sorted(a list of pairs) -/
theorem eg_sortedP {es : List (Nat × Nat)} (h : EvG te σ S fun v S' => PairsL S' v es) : EvG (tCB (rSortedPO K) (tCons te tNil)) σ S fun v S' => ∃ fs, PairsL S' v fs ∧ fs.Perm es ∧ fs.Pairwise fun e f => ¬ ltE f e := fun H e Q q =>
  h H e _ fun v S1 H1 g ⟨ps, ⟨a, ev, ha⟩, hp⟩ => by
    let kN : V → Nat × Nat := fun x => ((kAt S1 x).1.toNat, (kAt S1 x).2.toNat)
    have hk : ∀ x e, PairV S1 x e → kN x = e := fun x e hx => by
      show ((kAt S1 x).1.toNat, (kAt S1 x).2.toNat) = e
      rw [kAt_of hx]
      simp
    have hmem : ∀ x ∈ ps, PairV S1 x (kN x) := fun x hx => by
      obtain ⟨e, _, he⟩ := paired_mem hp x hx
      rw [hk x e he]; exact he
    refine ⟨a, ps, kAt S1, by rw [ev], ex_l g.i (sq_of ha), fun x hx => ?_, fun ys l hs hb hl => ?_⟩
    · obtain ⟨t, et, ht⟩ := hmem x hx
      have := kAt_of (hmem x hx)
      rw [this]
      exact ⟨t, et, g.i _ _ ht⟩
    · have hys : ∀ x ∈ ys, PairV S1 x (kN x) := fun x hx => hmem x (hb.perm.mem_iff.mp hx)
      refine q (.ref l) (upd S1 l (.lst ys)) _ (g.trans (Gr.new g.i hl)) ⟨ys.map kN, ⟨ys, ⟨l, rfl, upd_same⟩, paired_of fun x hx => (hys x hx).mono (Ex.new (fresh_back g.i hl))⟩, ?_, ?_⟩
      · rw [← paired_map hk hp]
        exact hb.perm.map kN
      · rw [List.pairwise_map]
        refine List.Pairwise.imp_of_mem (fun {x y} hx hy (hxy : ltP (kAt S1) y x = false) => ?_) hs
        have a1 := SrtO.lexB_no.mp hxy
        have b1 := kAt_of (hys x hx)
        have b2 := kAt_of (hys y hy)
        rw [b1, b2] at a1
        unfold ltE
        omega
/-- (n, tuple(sorted(hedges))) -/
theorem eg_web {n : Nat} {hv : V} {es : List (Nat × Nat)} (hn : Ev tn σ S (.int (n : Int))) (hh : Ev th σ S hv) (hP : PairsL S hv es) :
    EvG (tTup (tCons tn (tCons (tCB (rTupOf K) (tCons (tCB (rSortedPO K) (tCons th tNil)) tNil)) tNil))) σ S fun v S' => ∃ fs, WebV S' v n fs ∧ fs.Perm es ∧ fs.Pairwise fun e f => ¬ ltE f e := by
  refine EvG.imp (eg_tup (Pa := fun vs S' => ∃ b fs, vs = [.int (n : Int), b] ∧ PairsT S' b fs ∧ fs.Perm es ∧ fs.Pairwise fun e f => ¬ ltE f e) (eag_cons hn (eag_consG (eg_tupOfP (eg_sortedP (es := es) (EvG.of hh fun S' e => hP.mono e))) fun v S1 e ⟨fs, h1, h2⟩ => eag_nil ⟨v, fs, rfl, h1, h2⟩)) (fun vs S' ⟨b, fs, e, _⟩ => by rw [e]; show 2 ≤ 100000; decide) (fun vs A B e ⟨b, fs, h1, h2, h3⟩ => ⟨b, fs, h1, h2.mono e, h3⟩)) fun v S' _ ⟨vs, hT, b, fs, ev, h1, h2⟩ => ⟨fs, ⟨b, by rw [← ev]; exact hT, h1⟩, h2⟩
end
theorem asc_of {fs : List (Nat × Nat)} (h : fs.Pairwise fun e f => ¬ ltE f e) (hn : fs.Nodup) : fs.Pairwise ltE := by
  have h2 := List.nodup_iff_pairwise_ne.mp hn
  refine (h.and h2).imp fun {e f} ⟨a, b⟩ => ?_
  obtain ⟨e1, e2⟩ := e
  obtain ⟨f1, f2⟩ := f
  have b' : ¬ (e1 = f1 ∧ e2 = f2) := fun z => b (by rw [z.1, z.2])
  unfold ltE at a ⊢
  dsimp only at a ⊢
  omega
/-! ### (a, b) not in hedges -/
def eD (e : Nat × Nat) : PyData := .tuple [.int (e.1 : Int), .int (e.2 : Int)]
theorem eD_lay (z : Nat × Nat) : (eD z).canLay0 = true := by simp [eD, PyData.canLay0, PyData.canLayAll0]
theorem eD_depth (z : Nat × Nat) : (eD z).depth = 1 := by simp [eD, PyData.depth, PyData.depthAll]
theorem eDs_lay : ∀ zs : List (Nat × Nat), PyData.canLayAll0 (zs.map eD) = true
  | [] => by simp [PyData.canLayAll0]
  | z :: zs => by simp [PyData.canLayAll0, eD_lay z, eDs_lay zs]
theorem eDs_depth : ∀ zs : List (Nat × Nat), PyData.depthAll (zs.map eD) ≤ 1
  | [] => by simp [PyData.depthAll]
  | z :: zs => by
    have h1 := eDs_depth zs
    have h2 := eD_depth z
    simp only [List.map_cons, PyData.depthAll]
    omega
theorem eD_shaped (z : Nat × Nat) : SeqAt.shaped (eD z) = true := by
  have h := eD_depth z
  show ((eD z).canLay0 && decide ((eD z).depth ≤ 64)) = true
  rw [Bool.and_eq_true]
  exact ⟨eD_lay z, decide_eq_true (by omega)⟩
theorem eDs_shaped (zs : List (Nat × Nat)) : SeqAt.shaped (.list (zs.map eD)) = true := by
  have h1 := eDs_depth zs
  have h2 : PyData.depth (.list (zs.map eD)) ≤ 64 := by
    simp only [PyData.depth]
    omega
  show (PyData.canLay0 (.list (zs.map eD)) && decide (PyData.depth (.list (zs.map eD)) ≤ 64)) = true
  rw [Bool.and_eq_true]
  exact ⟨by simp only [PyData.canLay0]; exact eDs_lay zs, decide_eq_true h2⟩
theorem eD_eqv (z w : Nat × Nat) : PyData.eqv (eD z) (eD w) = decide (z = w) := by
  obtain ⟨a, b⟩ := z
  obtain ⟨a', b'⟩ := w
  have e : PyData.eqv (eD (a, b)) (eD (a', b')) = (((a : Int) == (a' : Int)) && (((b : Int) == (b' : Int)) && true)) := by simp only [eD, PyData.eqv, PyData.eqvAll]
  rw [e]
  by_cases h : ((a, b) : Nat × Nat) = (a', b')
  · cases h; simp
  · rw [decide_eq_false h]
    by_cases h1 : a = a'
    · have q : ((b : Int) == (b' : Int)) = false := beq_eq_false_iff_ne.mpr fun z => h (by rw [h1, show b = b' by omega])
      rw [q, Bool.false_and, Bool.and_false]
    · have q : ((a : Int) == (a' : Int)) = false := beq_eq_false_iff_ne.mpr (by omega)
      rw [q, Bool.false_and]
theorem eD_any (es : List (Nat × Nat)) (e : Nat × Nat) : ((es.map eD).any fun z => PyData.eqv z (eD e)) = decide (e ∈ es) := by
  induction es with
  | nil => simp
  | cons f r ih =>
    rw [List.map_cons, List.any_cons, ih, eD_eqv]
    by_cases h : f = e
    · subst h; simp
    · have h' : ¬ e = f := fun z => h z.symm
      simp [h, h']
section
variable {K : PySem.W.Frag} {S H : Hp}
theorem dpP {v : V} {e : Nat × Nat} (h : PairV S v e) : Dp K S v (eD e) := by
  obtain ⟨a, rfl, ha⟩ := h
  exact .tup (st_of ha) (.cons (.int _) (.cons (.int _) .nil))
theorem dpPs {ps : List V} {es : List (Nat × Nat)} (h : Paired (PairV S) ps es) : DpAll K S ps (es.map eD) := by
  induction h with
  | nil => exact .nil
  | cons r _ ih => exact .cons (dpP r) ih
end
end Tr
end
section
set_option linter.all false
/-! webs with further hedges. Plain Lean. -/
namespace Tr
structure WebI (n : Nat) (c : Nat → Nat) (es : List (Nat × Nat)) (k : Nat) : Prop where
  ok : ∀ e ∈ es, e.1 < e.2 ∧ e.2 < n
  col : Col es c
  con : Conn es n
  nd : es.Nodup
  len : es.length ≤ n + k
theorem TreeOk.web {n : Nat} {es : List (Nat × Nat)} {c : Nat → Nat} (T : TreeOk n es c) (h : es.length + 1 = n) : WebI n c es 0 := ⟨T.ok, T.col, T.con, T.nd, by omega⟩
theorem WebI.more {n : Nat} {c : Nat → Nat} {es : List (Nat × Nat)} {k : Nat} (I : WebI n c es k) : WebI n c es (k + 1) := ⟨I.ok, I.col, I.con, I.nd, by have := I.len; omega⟩
theorem WebI.add {n : Nat} {c : Nat → Nat} {es : List (Nat × Nat)} {k x y : Nat} (I : WebI n c es k) (hx : x < n) (hy : y < n) (hc : (c x + c y) % 2 = 1) (hne : (min x y, max x y) ∉ es) : WebI n c (es ++ [(min x y, max x y)]) (k + 1) := by
  have hxy : x ≠ y := fun e => by subst e; omega
  refine ⟨fun e he => ?_, fun u v h => ?_, fun Q h0 hQ => ?_, ?_, ?_⟩
  · rcases List.mem_append.mp he with he | he
    · exact I.ok e he
    · rw [List.mem_singleton] at he
      subst he
      show min x y < max x y ∧ max x y < n
      omega
  · rcases adj_app.mp h with h | h
    · exact I.col u v h
    · rcases adj_one' h with ⟨rfl, rfl⟩ | ⟨rfl, rfl⟩ <;> omega
  · exact I.con Q h0 fun u v h => hQ u v (adj_app.mpr (.inl h))
  · refine List.nodup_append.mpr ⟨I.nd, by simp, fun a ha b hb => ?_⟩
    rw [List.mem_singleton] at hb
    rintro rfl
    rw [hb] at ha
    exact hne ha
  · rw [List.length_append, List.length_singleton]; have := I.len; omega
theorem adj_perm {es fs : List (Nat × Nat)} (h : fs.Perm es) {u v : Nat} : Adj fs u v ↔ Adj es u v := by
  unfold Adj
  rw [h.mem_iff, h.mem_iff]
theorem Conn.perm {es fs : List (Nat × Nat)} {n : Nat} (h : fs.Perm es) (hC : Conn es n) : Conn fs n := fun Q h0 hQ => hC Q h0 fun u v ha => hQ u v ((adj_perm h).mpr ha)
theorem Col.perm {es fs : List (Nat × Nat)} {c : Nat → Nat} (h : fs.Perm es) (hC : Col es c) : Col fs c := fun u v ha => hC u v ((adj_perm h).mp ha)
end Tr
end
section
set_option Elab.async false
set_option linter.all false
set_option maxRecDepth 100000
set_option maxHeartbeats 4000000
namespace Tr
open PySem PySem.Spec PyProof.Rows L2 Evl
section
variable {P : Program} {w : World} {K : PySem.W.Frag} {mg : Str → Option Value} {base : Heap}
def sp_lweb (K : PySem.W.Frag) : Sp := fun vs H Q _ => ∃ (S : Hp) (r a : Addr) (ns : List Int), vs = [.ref r, .int (7 : Int)] ∧ Row K S H r a ns ∧ RetR K S H r a ns (fun v S' => ∃ n es c, WebV S' v n es ∧ WebOk n es c ∧ n ≤ 7 ∧ es.length ≤ 14) Q
theorem sp_lweb_ok {S H : Hp} {r a : Addr} {ns : List Int} (R : Row K S H r a ns) : SpR K (sp_lweb K) ([.ref r, .int (7 : Int)] ++ []) S H r a ns (fun v S' => ∃ n es c, WebV S' v n es ∧ WebOk n es c ∧ n ≤ 7 ∧ es.length ≤ 14) := fun Q E q => ⟨S, r, a, ns, rfl, R, q⟩
theorem ok__law_web (T : Tx K mg) : OkD P w K mg base 4 "_law_web" ["_law_row", "_law_most"] (sp_lweb K) := by
  refine mk__law_web T (fun vs H Q E h => ?_) (fun f cdv A outer s H vs Q E hr h => ?_)
  · obtain ⟨S, r, a, ns, rfl, _⟩ := h
    rfl
  · obtain ⟨S, r, a, ns, rfl, R, q⟩ := h
    refine ⟨_, (pss_cons (ps_set (i := 2) sc__law_web.nd rfl (.inl rfl) (pe_op op_add pe_int (pcall (ok__law_taken T) (hr.mono (by decide)) (pa_cons (pv 0) (pa_cons (pv 1) pa_nil)))))
    (pss_cons (ps_set (i := 3) sc__law_web.nd rfl (.inl rfl) (pcall (ok__law_tree T) (hr.mono (by decide)) (pa_cons (pv 0) (pa_cons (pv 2) pa_nil))))
    (pss_cons (ps_par (i := 4) (j := 5) rfl sc__law_web.nd rfl rfl (by decide) rfl rfl (pa_cons (pcall (ok__law_far T) (hr.mono (by decide)) (pa_cons (pe_tup (pa_cons (pv 2) (pa_cons (pe_callTy (tupOfK K) (by rfl) T.b_tuple (by decide +kernel) (pa_cons (pe_callB (sortedPOK K) (by rfl) T.b_sorted (by decide +kernel) (pa_cons (pv 3) pa_nil)) pa_nil)) pa_nil))) (pa_cons pe_int pa_nil))) (pa_cons (pe_callTy call_list_of (by rfl) T.b_list (by decide +kernel) (pa_cons (pv 3) pa_nil)) pa_nil)) (by rfl))
    (pss_cons (ps_for PassesOwn.never rfl (pi_range1 (by rfl) T.b_range (pa_cons (pcall (ok__law_pick T) (hr.mono (by decide)) (pa_cons (pv 0) (pa_cons (pe_lst (pa_cons pe_int (pa_cons pe_int (pa_cons pe_int (pa_cons pe_int (pa_cons (pv 2) pa_nil)))))) pa_nil))) pa_nil)) (pg_name (i := 6) sc__law_web.nd rfl (Or.inl rfl))
      (pss_cons (ps_par (i := 7) (j := 8) rfl sc__law_web.nd rfl rfl (by decide) rfl rfl (pa_cons (pcall (ok__law_taken T) (hr.mono (by decide)) (pa_cons (pv 0) (pa_cons (pv 2) pa_nil))) (pa_cons (pcall (ok__law_taken T) (hr.mono (by decide)) (pa_cons (pv 0) (pa_cons (pv 2) pa_nil))) pa_nil)) (by rfl))
    (pss_one (ps_if (PW.pt (pw_and (pt_cmpR op_eq (pe_op op_modN (pe_op op_sub (pe_ix (ixLK K) (pv 4) (pv 7) (fun _ _ => rfl)) (pe_ix (ixLK K) (pv 4) (pv 8) (fun _ _ => rfl))) pe_int) pe_int (nomark _)) (pw_and1 (pt_cmpR (op_notInD (units65 hr)) (pe_tup (pa_cons (pe_callB (cr_min2 rfl) (by rfl) T.b_min (by decide +kernel) (pa_cons (pv 7) (pa_cons (pv 8) pa_nil))) (pa_cons (pe_callB (cr_max2 rfl) (by rfl) T.b_max (by decide +kernel) (pa_cons (pv 7) (pa_cons (pv 8) pa_nil))) pa_nil))) (pv 5) (by rfl)))))
      (pss_one (ps_expr (pe_bm PySem.F.plainAttrs_list PySem.F.slot_list_append PySem.F.type_list_append mt_append (pv 5) (pa_cons (pe_tup (pa_cons (pe_callB (cr_min2 rfl) (by rfl) T.b_min (by decide +kernel) (pa_cons (pv 7) (pa_cons (pv 8) pa_nil))) (pa_cons (pe_callB (cr_max2 rfl) (by rfl) T.b_max (by decide +kernel) (pa_cons (pv 7) (pa_cons (pv 8) pa_nil))) pa_nil))) pa_nil))))
      pss_nil))))
    (pss_one (ps_ret (pe_tup (pa_cons (pv 2) (pa_cons (pe_callTy (tupOfK K) (by rfl) T.b_tuple (by decide +kernel) (pa_cons (pe_callB (sortedPOK K) (by rfl) T.b_sorted (by decide +kernel) (pa_cons (pv 5) pa_nil)) pa_nil)) pa_nil))))))))), ?_⟩
    refine x_seq (x_asg (x_op (x_c ?_)))
    refine er_call (K := K) (S := S) (H := H) (vs := [.ref r, .int ((7 : Nat) : Int)]) R (ea_cons (ev_var rfl) (ea_cons (ev_var rfl) ea_nil)) (fun H1 e1 R1 => sp_taken_ok R1 (by decide) (by decide)) _ fun v S1 H1 g1 R1 ⟨j, ev, hj⟩ => ?_
    subst ev
    refine ⟨_, _, rfl, rfl, ?_⟩
    dsimp only
    rw [show (1 : Int) + (j : Int) = ((1 + j : Nat) : Int) by omega]
    obtain ⟨n, hn⟩ : ∃ n, n = 1 + j := ⟨_, rfl⟩
    rw [← hn]
    have hn0 : 0 < n := by omega
    have hn7 : n ≤ 7 := by omega
    show tSeq _ _ _ [some (.ref r), some (.int 7), some (.int (n : Int)), none, none, none, none, none, none] H1
    refine x_seq (x_asg ?_)
    refine er_call (K := K) (S := S1) (H := H1) (vs := [.ref r, .int (n : Int)]) R1 (ea_cons (ev_var rfl) (ea_cons (ev_var rfl) ea_nil)) (fun H2 e2 R2 => sp_tree_ok R2 hn0 (by omega)) _ fun hv S2 H2 g2 R2 ⟨esT, c, hP, hT, hlen⟩ => ?_
    dsimp only
    show tSeq _ _ _ [some (.ref r), some (.int 7), some (.int (n : Int)), some hv, none, none, none, none, none] H2
    refine x_seq (x_par (x_cons ?_))
    refine eg_callG (σ := [some (.ref r), some (.int 7), some (.int (n : Int)), some hv, none, none, none, none, none]) (S := S2) (Pa := fun vs S' => ∃ wv fs, vs = [wv, .int ((0 : Nat) : Int)] ∧ WebV S' wv n fs ∧ fs.Perm esT ∧ fs.Pairwise fun e f => ¬ ltE f e) (P := fun v S' => ∃ d fs, LstA S' v (nV (tabN n d)) ∧ DistL fs n 0 d ∧ fs.Perm esT)
      (eag_consG (eg_web (ev_var rfl) (ev_var rfl) hP) fun wv S3 e3 ⟨fs, h1, h2, h3⟩ => eag_cons ev_c (eag_nil ⟨wv, fs, rfl, h1, h2, h3⟩))
      (fun vs S3 e3 ⟨wv, fs, evs, hW, hp, hs⟩ => by
        subst evs
        intro H4 e4 Q4 E4 q4
        exact sp_far_ok (first := 0) hW ⟨by omega, by rw [hp.length_eq]; omega, fun e he => hT.ok e (hp.mem_iff.mp he)⟩ (hT.con.perm hp) hn0 H4 e4 Q4 E4 fun v S5 H5 g5 ⟨d, h1, h2⟩ => q4 v S5 H5 g5 ⟨d, fs, h1, h2, hp⟩) H2 R2.ex _ fun told S3 H3 g3 ⟨d, fsT, hd, hD, hpT⟩ => ?_
    have R3 := R2.grow g3
    have gg3 : Gr [r] S H S3 H3 := (g1.trans g2).trans g3.any
    obtain ⟨ps, ⟨ah, rfl, hah⟩, hps⟩ := hP
    refine x_cons (x_var (v := .ref ah) rfl ⟨ah, ps, rfl, .inl (sq_of (R3.ex _ _ (g3.s _ _ hah))), fun L hL => x_nil ⟨told, .ref L, rfl, ?_⟩⟩)
    have hLH : H L = none := gg3.fr R.ex hL
    have hLS : S3 L = none := fresh_back R3.ex hL
    have hrL : r ≠ L := fun e => R3.ne (e ▸ hL)
    have gg4 : Gr [r] S H S3 (upd H3 L (.lst ps)) := gg3.trans (Gr.lay R3.ex hL)
    have R4 : Row K S3 (upd H3 L (.lst ps)) r a ns := R3.up (Ex.new hL)
    have h4L : upd H3 L (.lst ps) L = some (.lst ps) := upd_same
    generalize upd H3 L (.lst ps) = H4 at gg4 R4 h4L ⊢
    dsimp only
    show tSeq _ _ _ [some (.ref r), some (.int 7), some (.int (n : Int)), some (.ref ah), some told, some (.ref L), none, none, none] H4
    have hpar := hD.w.par (hT.col.perm hpT)
    refine x_seq (x_for1 (x_cons (x_call (x_cons (x_var (v := .ref r) rfl (x_cons (x_lst (x_cons (x_c (x_cons (x_c (x_cons (x_c (x_cons (x_c (x_cons (x_var (v := .int (n : Int)) rfl (x_nil ⟨by show 5 ≤ sizeLine; decide, fun p hp => x_nil ?_⟩))))))))))))))))))
    have g5 : Gr [r] S3 H4 (upd S3 p (.lst [.int 0, .int 0, .int 1, .int 2, .int (n : Int)])) (upd H4 p (.lst [.int 0, .int 0, .int 1, .int 2, .int (n : Int)])) := Gr.new R4.ex hp
    have R5 := R4.next g5 (R4.at_.ex (Ex.new hp))
    have pL : L ≠ p := fun e => by rw [← e, h4L] at hp; cases hp
    refine sp_pick_ok R5 ⟨p, rfl, upd_same⟩ (by show 0 < 5; decide) (by show 5 ≤ 1000000; decide) _ _ fun v S6 H6 g6 R6 ⟨j, hj⟩ => x_nil ?_
    have hv : ∃ z : Nat, v = .int (z : Int) ∧ z ≤ 7 := by
      match j, hj with
      | 0, hj => exact ⟨0, by cases hj; rfl, by omega⟩
      | 1, hj => exact ⟨0, by cases hj; rfl, by omega⟩
      | 2, hj => exact ⟨1, by cases hj; rfl, by omega⟩
      | 3, hj => exact ⟨2, by cases hj; rfl, by omega⟩
      | 4, hj => exact ⟨n, by cases hj; rfl, hn7⟩
      | j + 5, hj => cases hj
    obtain ⟨z, rfl, hz⟩ := hv
    have gg6 := (gg4.trans g5).trans g6
    have s5L : upd S3 p (.lst [.int 0, .int 0, .int 1, .int 2, .int (n : Int)]) L = none := by rw [upd_ne pL]; exact hLS
    have h5L : upd H4 p (.lst [.int 0, .int 0, .int 1, .int 2, .int (n : Int)]) L = some (.lst ps) := by rw [upd_ne pL]; exact h4L
    have s6L : S6 L = none := g6.f _ s5L (by rw [h5L]; simp)
    have h6L : H6 L = some (.lst ps) := g6.h _ _ (by simp [Ne.symm hrL]) h5L
    have x26 : Ex S2 S6 := (g3.s.trans (Ex.new (fresh_back R4.ex hp))).trans g6.s
    have x36 : Ex S3 S6 := (Ex.new (fresh_back R4.ex hp)).trans g6.s
    refine rng1_go (by omega) (fun i σ' H' => ∃ (S' : Hp) (ps : List V) (es : List (Nat × Nat)) (y1 y2 y3 : Option V), σ' = [some (.ref r), some (.int 7), some (.int (n : Int)), some (.ref ah), some told, some (.ref L), y1, y2, y3] ∧ Gr [r] S H S' H' ∧ Row K S' H' r a ns ∧ S' L = none ∧ LstA S' told (nV (tabN n d)) ∧ H' L = some (.lst ps) ∧ Paired (PairV S') ps es ∧ WebI n c es i)
      ⟨S6, ps, esT, none, none, none, rfl, gg6, R6, s6L, hd.mono x36, h6L, hps.mono fun _ _ q => q.mono x26, hT.web hlen⟩ ?_ ?_
    · rintro i σ' H' hi ⟨S', ps, es, y1, y2, y3, rfl, gg, R', sL, hd', hL', hps, I⟩
      show tSeq _ _ _ [some (.ref r), some (.int 7), some (.int (n : Int)), some (.ref ah), some told, some (.ref L), some (.int (i : Int)), y2, y3] H'
      refine x_seq (x_par (x_cons ?_))
      refine er_call (K := K) (S := S') (H := H') (vs := [.ref r, .int (n : Int)]) R' (ea_cons (ev_var rfl) (ea_cons (ev_var rfl) ea_nil)) (fun H5 e5 R5 => sp_taken_ok R5 hn0 (by omega)) _ fun v S7 H7 g7 R7 ⟨x, ev, hx⟩ => x_cons ?_
      subst ev
      refine er_call (K := K) (S := S7) (H := H7) (vs := [.ref r, .int (n : Int)]) R7 (ea_cons (ev_var rfl) (ea_cons (ev_var rfl) ea_nil)) (fun H5 e5 R5 => sp_taken_ok R5 hn0 (by omega)) _ fun v S8 H8 g8 R8 ⟨y, ev, hy⟩ => x_nil ⟨_, _, rfl, ?_⟩
      subst ev
      have g78 := g7.trans g8
      have gg8 := gg.trans g78
      have h8L : H8 L = some (.lst ps) := g78.h _ _ (by simp [Ne.symm hrL]) hL'
      have s8L : S8 L = none := g78.f _ sL (by rw [hL']; simp)
      have hd8 := hd'.mono g78.s
      have hps8 : Paired (PairV S8) ps es := hps.mono fun _ _ q => q.mono g78.s
      dsimp only
      show tIfS _ _ _ _ [some (.ref r), some (.int 7), some (.int (n : Int)), some (.ref ah), some told, some (.ref L), some (.int (i : Int)), some (.int (x : Int)), some (.int (y : Int))] H8
      have hd8H := hd8.mono R8.ex
      have hpsH : Paired (PairV H8) ps es := hps8.mono fun _ _ q => q.mono R8.ex
      have hmx : EvU (tTup (tCons (tCB rMin2 (tCons (tVar 7) (tCons (tVar 8) tNil))) (tCons (tCB rMax2 (tCons (tVar 7) (tCons (tVar 8) tNil))) tNil))) [some (.ref r), some (.int 7), some (.int (n : Int)), some (.ref ah), some told, some (.ref L), some (.int (i : Int)), some (.int (x : Int)), some (.int (y : Int))] H8 [.int ((min x y : Nat) : Int), .int ((max x y : Nat) : Int)] := eu_tup (ea_cons (ev_minN (ev_var rfl) (ev_var rfl)) (ea_cons (ev_maxN (ev_var rfl) (ev_var rfl)) ea_nil)) (by show 2 ≤ 100000; decide)
      refine s_when (b := decide (V.int (Int.fmod ((d x : Int) - (d y : Int)) 2) = V.int 1) && !decide ((min x y, max x y) ∈ es)) (et_and (et_test (ev_op (ev_op (ev_op (ev_ixL (j := x) (ev_var rfl) (ev_var rfl) hd8H (nV_get (tabN_get hx))) (ev_ixL (j := y) (ev_var rfl) (ev_var rfl) hd8H (nV_get (tabN_get hy))) rv_I0) ev_c (rv_I (by decide))) ev_c (rv_eq rfl))) fun _ => et_test ?_) (fun hb H9 e9 => ?_) (fun hb H9 e9 => ?_)
      · intro H9 e9 Q9 q9
        refine hmx H9 e9 _ fun tp H10 htp e10 h10 => x_var (v := .ref L) rfl ?_
        refine ⟨eD (min x y, max x y), es.map eD, dpP ⟨tp, rfl, h10⟩, .lst (sq_of (e10 _ _ (e9 _ _ h8L))) (dpPs (hpsH.mono fun _ _ q => q.mono (e9.trans e10))), eD_shaped _, eDs_shaped _, ?_⟩
        rw [eD_any]
        exact q9 H10 e10
      · have hb' : Int.fmod ((d x : Int) - (d y : Int)) 2 = 1 ∧ (min x y, max x y) ∉ es := by
          rw [Bool.and_eq_true] at hb
          refine ⟨?_, by simpa using hb.2⟩
          have := of_decide_eq_true hb.1
          injection this
        have hcc : (c x + c y) % 2 = 1 := by
          have p1 := hpar x hx
          have p2 := hpar y hy
          have := hb'.1
          rw [Int.fmod_eq_emod_of_nonneg _ (by decide)] at this
          omega
        have h9L := e9 _ _ h8L
        refine x_drop (x_bm (x_var (v := .ref L) rfl ⟨.inl ⟨rfl, _, sq_of h9L⟩, x_cons ?_⟩))
        refine hmx H9 e9 _ fun tp H10 htp e10 h10 => ?_
        have gg9 := gg8.trans (Gr.of_ex gg8.i e9)
        have gg10 := gg9.trans (Gr.of_ex gg9.i e10)
        have hHt : H tp = none := gg9.fr R.ex htp
        have gg11 := gg10.fix hHt h10
        have h10L := e10 _ _ h9L
        have tL : tp ≠ L := fun e => by rw [e, h9L] at htp; cases htp
        have s11L : upd S8 tp (.tup [.int ((min x y : Nat) : Int), .int ((max x y : Nat) : Int)]) L = none := by rw [upd_ne (Ne.symm tL)]; exact s8L
        refine x_nil ⟨L, ps, .ref tp, rfl, rfl, h10L, sz_lt (by rw [hps.length]; have := I.len; omega), ?_⟩
        have g12 := gg11.put (p := L) (u := .lst (ps ++ [.ref tp])) (.inl hLH) s11L
        have hat : RowAt (upd H10 L (.lst (ps ++ [.ref tp]))) r a := by
          obtain ⟨c, g, m, h1, h2⟩ := R8.at_
          exact ⟨c, g, m, by rw [upd_ne hrL]; exact e10 _ _ (e9 _ _ h1), h2⟩
        have sT : S8 tp = none := fresh_back (R8.ex.trans e9) htp
        have x11 : Ex S8 (upd S8 tp (.tup [.int ((min x y : Nat) : Int), .int ((max x y : Nat) : Int)])) := Ex.new sT
        exact ⟨_, _, es ++ [(min x y, max x y)], _, _, _, rfl, g12, R.next g12 hat, s11L, hd8.mono x11, upd_same, paired_snoc (hps8.mono fun _ _ q => q.mono x11) ⟨tp, rfl, upd_same⟩, I.add hx hy hcc hb'.2⟩
      · have gg9 := gg8.trans (Gr.of_ex gg8.i e9)
        exact ⟨S8, ps, es, _, _, _, rfl, gg9, R8.up e9, s8L, hd8, e9 _ _ h8L, hps8, I.more⟩
    · rintro σ' H' ⟨S', ps, es, y1, y2, y3, rfl, gg, R', sL, hd', hL', hps, I⟩
      dsimp only
      show tRet _ _ [some (.ref r), some (.int 7), some (.int (n : Int)), some (.ref ah), some told, some (.ref L), y1, y2, y3] H'
      have gg1 := gg.fix hLH hL'
      have hPL : PairsL (upd S' L (.lst ps)) (.ref L) es := ⟨ps, ⟨L, rfl, upd_same⟩, hps.mono fun _ _ q => q.mono (Ex.new sL)⟩
      refine x_ret ?_
      refine eg_web (K := K) (σ := [some (.ref r), some (.int 7), some (.int (n : Int)), some (.ref ah), some told, some (.ref L), y1, y2, y3]) (S := upd S' L (.lst ps)) (ev_var rfl) (ev_var rfl) hPL H' gg1.i _ fun v S7 H7 g7 ⟨fs, hW, hp, hs⟩ => ?_
      have gg7 := gg1.trans g7.any
      have hlen2 := I.len
      exact q v S7 H7 gg7 (R.next gg7 (R'.at_.ex g7.ex)) ⟨n, fs, c, hW, ⟨⟨hn0, by omega, by rw [hp.length_eq]; omega, fun e he => I.ok e (hp.mem_iff.mp he), asc_of hs (hp.symm.nodup I.nd)⟩, I.con.perm hp, I.col.perm hp⟩, hn7, by rw [hp.length_eq]; omega⟩
end
end Tr
end
section
set_option linter.all false
/-! layings: lows and highs. Plain Lean. -/
namespace Tr
def lowB (es : List (Nat × Nat)) (h : Nat → Int) (f : Nat) : Bool := (nb es f).all fun u => decide (h f ≤ h u)
def highB (es : List (Nat × Nat)) (h : Nat → Int) (f : Nat) : Bool := (nb es f).all fun u => decide (h u ≤ h f)
theorem lowB_iff {es : List (Nat × Nat)} {h : Nat → Int} {f : Nat} : lowB es h f = true ↔ ∀ u, Adj es f u → h f ≤ h u := by
  unfold lowB
  rw [List.all_eq_true]
  exact ⟨fun H u hu => of_decide_eq_true (H u (mem_nb.mpr hu)), fun H u hu => decide_eq_true (H u (mem_nb.mp hu))⟩
theorem highB_iff {es : List (Nat × Nat)} {h : Nat → Int} {f : Nat} : highB es h f = true ↔ ∀ u, Adj es f u → h u ≤ h f := by
  unfold highB
  rw [List.all_eq_true]
  exact ⟨fun H u hu => of_decide_eq_true (H u (mem_nb.mpr hu)), fun H u hu => decide_eq_true (H u (mem_nb.mp hu))⟩
/-- neighbors one step apart -/
def Lay (es : List (Nat × Nat)) (h : Nat → Int) : Prop := ∀ e ∈ es, absI (h e.1 - h e.2) = 1
theorem absI_iff {x : Int} : absI x = 1 ↔ x = 1 ∨ x = -1 := by unfold absI; split <;> omega
theorem Lay.adj {es : List (Nat × Nat)} {h : Nat → Int} (L : Lay es h) {u v : Nat} (ha : Adj es u v) : h u = h v + 1 ∨ h v = h u + 1 := by
  rcases ha with ha | ha
  · have := absI_iff.mp (L _ ha); dsimp only at this; omega
  · have := absI_iff.mp (L _ ha); dsimp only at this; omega
theorem Lay.of {es : List (Nat × Nat)} {h : Nat → Int} (H : ∀ u v, Adj es u v → h u = h v + 1 ∨ h v = h u + 1) : Lay es h := fun e he => by
  have := H e.1 e.2 (.inl he)
  exact absI_iff.mpr (by omega)
theorem Lay.raise {es : List (Nat × Nat)} {h : Nat → Int} (L : Lay es h) (hd : ∀ e ∈ es, e.1 ≠ e.2) {f : Nat} (hl : lowB es h f = true) : Lay es (updF h f (h f + 2)) := by
  have hl := lowB_iff.mp hl
  refine Lay.of fun u v ha => ?_
  have huv : u ≠ v := by
    rcases ha with q | q
    · exact hd _ q
    · exact (hd _ q).symm
  by_cases e1 : u = f
  · subst e1
    rw [updF_same, updF_ne (Ne.symm huv)]
    have := hl v ha
    have := L.adj ha
    omega
  · by_cases e2 : v = f
    · subst e2
      rw [updF_same, updF_ne e1]
      have := hl u ha.symm
      have := L.adj ha
      omega
    · rw [updF_ne e1, updF_ne e2]; exact L.adj ha
theorem Lay.lower {es : List (Nat × Nat)} {h : Nat → Int} (L : Lay es h) (hd : ∀ e ∈ es, e.1 ≠ e.2) {f : Nat} (hl : highB es h f = true) : Lay es (updF h f (h f + (0 - 2))) := by
  have hl := highB_iff.mp hl
  refine Lay.of fun u v ha => ?_
  have huv : u ≠ v := by
    rcases ha with q | q
    · exact hd _ q
    · exact (hd _ q).symm
  by_cases e1 : u = f
  · subst e1
    rw [updF_same, updF_ne (Ne.symm huv)]
    have := hl v ha
    have := L.adj ha
    omega
  · by_cases e2 : v = f
    · subst e2
      rw [updF_same, updF_ne e1]
      have := hl u ha.symm
      have := L.adj ha
      omega
    · rw [updF_ne e1, updF_ne e2]; exact L.adj ha
theorem least_of (h : Nat → Int) : ∀ n, 0 < n → ∃ f, f < n ∧ ∀ u, u < n → h f ≤ h u
  | 0, hn => absurd hn (by omega)
  | 1, _ => ⟨0, by omega, fun u hu => by rw [show u = 0 by omega]; exact Int.le_refl _⟩
  | n + 2, _ => by
    obtain ⟨f, hf, hl⟩ := least_of h (n + 1) (by omega)
    by_cases q : h f ≤ h (n + 1)
    · refine ⟨f, by omega, fun u hu => ?_⟩
      by_cases e : u = n + 1
      · rw [e]; exact q
      · exact hl u (by omega)
    · refine ⟨n + 1, by omega, fun u hu => ?_⟩
      by_cases e : u = n + 1
      · rw [e]; exact Int.le_refl _
      · have := hl u (by omega); omega
theorem low_ex {n : Nat} {es : List (Nat × Nat)} {h : Nat → Int} (hn : 0 < n) (hE : ∀ e ∈ es, e.1 < n ∧ e.2 < n) : ∃ f, f < n ∧ lowB es h f = true := by
  obtain ⟨f, hf, hl⟩ := least_of h n hn
  refine ⟨f, hf, lowB_iff.mpr fun u ha => hl u ?_⟩
  rcases ha with q | q
  · exact (hE _ q).2
  · exact (hE _ q).1
/-- a filter of a permuted list is empty -/
theorem filt_empty {xs ys : List Nat} (hp : xs.Perm ys) (p : Nat → Bool) : (xs.filter p).isEmpty = ys.all (fun u => !p u) := by
  have h1 : (xs.filter p).isEmpty = xs.all (fun u => !p u) := by
    clear hp
    induction xs with
    | nil => rfl
    | cons x r ih =>
      rw [List.filter_cons, List.all_cons]
      cases hx : p x with
      | true => rw [if_pos rfl]; rfl
      | false => rw [if_neg (by decide), ih]; rfl
  rw [h1, Bool.eq_iff_iff, List.all_eq_true, List.all_eq_true]
  exact ⟨fun H x hx => H x (hp.mem_iff.mpr hx), fun H x hx => H x (hp.mem_iff.mp hx)⟩
end Tr
end
section
set_option Elab.async false
set_option linter.all false
set_option maxRecDepth 100000
set_option maxHeartbeats 4000000
namespace Tr
open PySem PySem.Spec PyProof.Rows L2 Evl
section
variable {K : PySem.W.Frag} {σ : L2.St} {S H : Hp} {te ta tb tk : TE} {g : TG} {n : Nat} {u : Nat → L2.St → L2.St} {wi : TI}
theorem catAK (K : PySem.W.Frag) {X : Cx} (h : X.K = K := by rfl) : OpR X (binaryOp .Add) (rCatA K) := h ▸ op_catA
theorem eg_catA {xs ys : List V} (ha : EvG ta σ S fun v S' => TupA S' v xs) (hb : ∀ S1, Ex S S1 → EvG tb σ S1 fun v S' => TupA S' v ys) (hz : xs.length + ys.length ≤ 100000) : EvG (tOp (rCatA K) ta tb) σ S fun v S' => TupA S' v (xs ++ ys) := fun H e Q q =>
  ha H e _ fun x S1 H1 g1 hx => hb S1 g1.s H1 g1.i _ fun y S2 H2 g2 hy => by
    obtain ⟨a, rfl, hxa⟩ := hx
    obtain ⟨b, rfl, hyb⟩ := hy
    have g := g1.trans g2
    refine ⟨a, b, xs, ys, rfl, rfl, st_of (g2.i _ _ (g2.s _ _ hxa)), st_of (g2.i _ _ hyb), sz_of hz, fun h0 => ?_, fun _ h0 => ?_, fun _ _ p hp => ?_⟩
    · exact q _ S2 H2 g ⟨b, rfl, by rw [h0, List.nil_append]; exact hyb⟩
    · exact q _ S2 H2 g ⟨a, rfl, by rw [h0, List.append_nil]; exact g2.s _ _ hxa⟩
    · exact q _ (upd S2 p (.tup (xs ++ ys))) _ (g.trans (Gr.new g2.i hp)) ⟨p, rfl, upd_same⟩
/-- two lists joined -/
theorem eg_catL {P1 P2 : List V → Hp → Prop} (ha : EvG ta σ S fun v S' => ∃ xs, LstA S' v xs ∧ xs.length ≤ 1000 ∧ P1 xs S') (hb : ∀ S1, Ex S S1 → EvG tb σ S1 fun v S' => ∃ ys, LstA S' v ys ∧ ys.length ≤ 1000 ∧ P2 ys S') (m1 : ∀ xs A B, Ex A B → P1 xs A → P1 xs B) (m2 : ∀ xs A B, Ex A B → P2 xs A → P2 xs B) :
    EvG (tOp rCat ta tb) σ S fun v S' => ∃ xs ys, LstA S' v (xs ++ ys) ∧ xs.length ≤ 1000 ∧ ys.length ≤ 1000 ∧ P1 xs S' ∧ P2 ys S' := fun H e Q q =>
  ha H e _ fun x S1 H1 g1 ⟨xs, hx, lx, px⟩ => hb S1 g1.s H1 g1.i _ fun y S2 H2 g2 ⟨ys, hy, ly, py⟩ => by
    obtain ⟨a, rfl, hxa⟩ := hx
    obtain ⟨b, rfl, hyb⟩ := hy
    have g := g1.trans g2
    exact ⟨a, b, xs, ys, rfl, rfl, g2.i _ _ (g2.s _ _ hxa), g2.i _ _ hyb, sz_of (by omega), fun p hp => q _ (upd S2 p (.lst (xs ++ ys))) _ (g.trans (Gr.new g2.i hp)) ⟨xs, ys, ⟨p, rfl, upd_same⟩, lx, ly, m1 _ _ _ (g2.s.trans (Ex.new (fresh_back g2.i hp))) px, m2 _ _ _ (Ex.new (fresh_back g2.i hp)) py⟩⟩
/-- a comprehension that makes its elements -/
theorem lc_mapG {vs : List Nat} (R : Nat → V → Hp → Prop) (mono : ∀ i y A B, Ex A B → R i y A → R i y B) (ht : Turns wi g σ S n u) (hw : ∀ i, i < n → wipe (u i (wipe σ vs)) vs = wipe σ vs) (hz : n ≤ 100000) (he : ∀ i S1, i < n → Ex S S1 → EvG te (u i (wipe σ vs)) S1 (R i)) :
    EvG (tLc wi g tYes te vs) σ S fun v S' => ∃ acc, LstA S' v acc ∧ Paired (fun y i => R i y S') acc (List.range n) := by
  refine lc_turns ht hw (fun i acc S1 => Paired (fun y i => R i y S1) acc (List.range i)) hz (fun _ _ => .nil) (fun i acc _ h => by rw [h.length, List.length_range]; exact Nat.le_refl _) (fun i acc A B e h => h.mono fun _ _ q => mono _ _ _ _ e q) (fun i acc S1 hi e h => ⟨true, et_yes, fun _ => fun H eH Q q => ?_, fun q => nomatch q⟩) fun p acc S1 e _ hp h => ⟨acc, ⟨p, rfl, hp⟩, h⟩
  refine he i S1 hi e H eH Q fun y S2 H2 g2 r => q y S2 H2 g2 ?_
  rw [List.range_succ]
  exact paired_snoc (h.mono fun _ _ q => mono _ _ _ _ g2.s q) r
/-- sorted(a list of tuples of ints) -/
theorem eg_sortedTU {P : List V → Hp → Prop} {d : Nat} (hd : 1 ≤ d) (h : EvG te σ S fun v S' => ∃ xs, LstA S' v xs ∧ (∀ x ∈ xs, ∃ ns : List Int, TupA S' x (iV ns) ∧ ns.length = d) ∧ P xs S') (hm : ∀ xs A B, Ex A B → P xs A → P xs B) :
    EvG (tCB (rSortedTU K) (tCons te tNil)) σ S fun v S' => ∃ xs ys, LstA S' v ys ∧ ys.Perm xs ∧ P xs S' := fun H e Q q =>
  h H e _ fun v S1 H1 g ⟨xs, ⟨a, ev, ha⟩, hx, hp⟩ => ⟨a, xs, d, by rw [ev], ex_l g.i (sq_of ha), hd, fun x hm => by
    obtain ⟨ns, ⟨t, e1, e2⟩, e3⟩ := hx x hm
    exact ⟨ns, ⟨t, e1, st_of (g.i _ _ e2)⟩, e3⟩, fun ys p hp2 hn => q _ (upd S1 p (.lst ys)) _ (g.trans (Gr.new g.i hn)) ⟨xs, ys, ⟨p, rfl, upd_same⟩, hp2, hm _ _ _ (Ex.new (fresh_back g.i hn)) hp⟩⟩
end
section
variable {P : Program} {w : World} {K : PySem.W.Frag} {mg : Str → Option Value} {base : Heap}
/-! ### lows, highs -/
def sp_lows (B : List (Nat × Nat) → (Nat → Int) → Nat → Bool) : Sp := fun vs H Q _ => ∃ (S : Hp) (v : V) (n : Nat) (es : List (Nat × Nat)) (l : V) (h : Nat → Int), vs = [v, l] ∧ Ex S H ∧ WebV S v n es ∧ EdgesOk n es ∧ LayV S l n h ∧
  RetG S H (fun r S' => LstA S' r (nV ((List.range n).filter (B es h)))) Q
theorem sp_lows_ok {B : List (Nat × Nat) → (Nat → Int) → Nat → Bool} {S : Hp} {v l : V} {n : Nat} {es : List (Nat × Nat)} {h : Nat → Int} (hW : WebV S v n es) (ok : EdgesOk n es) (hL : LayV S l n h) : SpG (sp_lows B) ([v, l] ++ []) S (fun r S' => LstA S' r (nV ((List.range n).filter (B es h)))) := fun H e Q E q => ⟨S, v, n, es, l, h, rfl, e, hW, ok, hL, q⟩
theorem nV_filter {n : Nat} {p : Nat → Bool} : ((List.range n).filter p).map (fun i : Nat => V.int (i : Int)) = nV ((List.range n).filter p) := rfl
theorem range_get {α : Type} (xs : List α) (d : α) : (List.range xs.length).map (fun j => xs.getD j d) = xs := by
  apply List.ext_getElem?
  intro i
  rw [List.getElem?_map]
  by_cases hi : i < xs.length
  · rw [List.getElem?_range hi, List.getElem?_eq_getElem hi]
    show some (xs.getD i d) = _
    rw [List.getD_eq_getElem?_getD, List.getElem?_eq_getElem hi]; rfl
  · rw [List.getElem?_eq_none (by rw [List.length_range]; omega), List.getElem?_eq_none (by omega)]; rfl
theorem filt_get (xs : List Nat) (p : Nat → Bool) : ((List.range xs.length).filter fun j => p (xs.getD j 0)).map (fun j => xs.getD j 0) = xs.filter p := by
  conv => rhs; rw [← range_get xs 0]
  rw [List.filter_map]; rfl
/-- the walk of lows and of highs -/
theorem rd_lows {B : List (Nat × Nat) → (Nat → Int) → Nat → Bool} {c : Int → Int → Bool} (hB : ∀ es h f, B es h f = (nb es f).all fun u => !c (h u) (h f)) {S H : Hp} {v l : V} {n : Nat} {es : List (Nat × Nat)} {h : Nat → Int} {Q : VK} {nx : L2.St → Hp → Prop} (eH : Ex S H) (hW : WebV S v n es) (ok : EdgesOk n es) (hL : LayV S l n h)
    (q : RetG S H (fun r S' => LstA S' r (nV ((List.range n).filter (B es h)))) Q) :
    tSeq (tAsg (tCall sp_nears [] E0 (tCons (tVar 0) tNil)) (gName 2)) (tRet (tLc (iRng1 (tCons (tOp (rIxT K) (tVar 0) (tC (.int 0))) tNil)) (gName 3) (tTest (tOp (rEqD K) (tLc (iList K (tOp (rIxL K) (tVar 2) (tVar 3))) (gName 4) (tTest (tOp (rI0 fun i j => .bl (c i j)) (tOp (rIxT K) (tVar 1) (tVar 4)) (tOp (rIxT K) (tVar 1) (tVar 3)))) (tVar 4) [4]) (tLst tNil))) (tVar 3) [3]))
      { nx := nx, rt := Q } [some v, some l, none, none, none] H := by
  obtain ⟨b, hT, hBb⟩ := id hW
  have hhi := ok.hi
  refine q_asgG (eg_call (ea_cons (ev_var rfl) ea_nil) (sp_nears_ok hW ok)) eH (fun nr S1 H1 g1 ⟨xss, ⟨rows, hrows, hrp⟩, hxl, hxp⟩ => ?_)
  refine s_retG (S := S1) (P := fun r S' => LstA S' r (nV ((List.range n).filter (B es h)))) (EvG.imp (lc_filter (n := n) (fun f => B es h f) (fun i => V.int (i : Int)) (turns_rng1 (j := 3) (ea_cons (ev_ixT (j := 0) (ev_var rfl) ev_c (hT.mono g1.s) rfl) ea_nil) (by omega)) (fun i _ => set1_wipe _ _ _) (by omega) (fun f S2 hf e2 => ?_) (fun i S2 hi _ e => ev_var rfl)) fun r S' _ hr => hr) g1.i fun r S2 H2 g2 p => q r S2 H2 (g1.trans g2) p
  obtain ⟨xs, hxs⟩ : ∃ xs, xss[f]? = some xs := ⟨xss[f]'(by omega), List.getElem?_eq_getElem (by omega)⟩
  obtain ⟨row, hrow, ar, ear, har⟩ := pgetR hrp hxs
  subst ear
  have hperm := hxp f xs hxs
  have hxlen : xs.length ≤ 60 := by rw [hperm.length_eq]; exact Nat.le_trans (nb_len es f) ok.few
  have hL1 := (hL.mono g1.s).mono e2
  have hin : ∀ j, j < xs.length → xs.getD j 0 < n := fun j hj => by
    have hm : xs.getD j 0 ∈ xs := by rw [List.getD_eq_getElem?_getD, List.getElem?_eq_getElem hj]; exact List.getElem_mem hj
    have := mem_nb.mp (hperm.mem_iff.mp hm)
    rcases this with q | q
    · exact (ok.ok _ q).2
    · have := ok.ok _ q; omega
  have key := ev_eqNilG (K := K) (σ := [some v, some l, some nr, some (.int (f : Int)), none]) (S := S2) (ns := (xs.filter fun u => c (h u) (h f)).map fun k : Nat => (k : Int)) (ta := tLc (iList K (tOp (rIxL K) (tVar 2) (tVar 3))) (gName 4) (tTest (tOp (rI0 fun i j => .bl (c i j)) (tOp (rIxT K) (tVar 1) (tVar 4)) (tOp (rIxT K) (tVar 1) (tVar 3)))) (tVar 4) [4])
    (EvG.imp (lc_filter (n := xs.length) (u := fun j σ' => σ'.set 4 (some (.int (xs.getD j 0 : Int)))) (fun j => c (h (xs.getD j 0)) (h f)) (fun j => V.int (xs.getD j 0 : Int)) (by
        have := turns_list (K := K) (σ := [some v, some l, some nr, some (.int (f : Int)), none]) (S := S2) (a := ar) (xs := nV xs) (tl := tOp (rIxL K) (tVar 2) (tVar 3)) (g := gName 4) (u := fun j σ' => σ'.set 4 (some (.int (xs.getD j 0 : Int)))) (ev_ixL (x := nr) (j := f) (xs := rows) (ev_var rfl) (ev_var rfl) (hrows.mono e2) hrow) (sq_of (e2 _ _ har)) (fun i x H σ' Q hx e q => by
          unfold nV at hx
          rw [List.getElem?_map] at hx
          cases hb : xs[i]? with
          | none => rw [hb] at hx; cases hx
          | some b =>
            rw [hb] at hx
            have e2 : xs.getD i 0 = b := by rw [List.getD_eq_getElem?_getD, hb]; rfl
            have := q H (Ex.refl _)
            rw [e2] at this
            cases hx
            exact this)
        rw [nV_len] at this
        exact this) (fun i _ => set1_wipe _ _ _) (by omega) (fun j S3 hj e3 => et_test (ev_op (x := .int (h (xs.getD j 0))) (y := .int (h f)) (ev_ixT (j := xs.getD j 0) (ev_var rfl) (ev_var rfl) (hL1.mono e3) (iV_get (tabI_get (hin j hj)))) (ev_ixT (j := f) (ev_var rfl) (ev_var rfl) (hL1.mono e3) (iV_get (tabI_get hf))) rv_I0)) (fun j S3 hj _ e3 => ev_var rfl)) fun r S' _ hr => by
      have e1 : ((List.range xs.length).filter fun j => c (h (xs.getD j 0)) (h f)).map (fun j => V.int (xs.getD j 0 : Int)) = iV ((xs.filter fun u => c (h u) (h f)).map fun k : Nat => (k : Int)) := by
        rw [← nV_iV, ← filt_get xs fun u => c (h u) (h f)]
        unfold nV
        rw [List.map_map]; rfl
      rw [← e1]; exact hr)
  have eb : ((xs.filter fun u => c (h u) (h f)).map fun k : Nat => (k : Int)).isEmpty = B es h f := by
    rw [List.isEmpty_map, filt_empty hperm, hB]
  rw [eb] at key
  exact et_test key
theorem ok__law_lows (T : Tx K mg) : OkD P w K mg base 2 "_law_lows" ["_law_web_here", "_law_laying_here"] (sp_lows lowB) := by
  refine mk__law_lows T (fun vs H Q E h => ?_) (fun f cdv A outer s H vs Q E hr h => ?_)
  · obtain ⟨S, v, n, es, l, h, rfl, _⟩ := h
    rfl
  · obtain ⟨S, v, n, es, l, h, rfl, eH, hW, ok, hL, q⟩ := h
    exact ⟨_, (pss_cons (ps_set (i := 2) sc__law_lows.nd rfl (.inr rfl) (pcall (ok__law_nears T) (hr.mono (by decide)) (pa_cons (pv 0) pa_nil)))
    (pss_one (ps_ret (pe_lc (own := [("_law_field", 3)]) (g := (gName 3)) rfl sc__law_lows.nd (pi_range1 (by rfl) T.b_range (pa_cons (pe_ix (ixTK K) (pv 0) pe_int (fun _ _ => rfl)) pa_nil)) (blkOk_by (own := [("_law_field", 3)]) (N := N__law_lows) (sc := defScope s__law_lows) (by decide +kernel)) (fun _ _ _ _ _ => (pg_name (i := 3) sc__law_lows.nd rfl (by first | exact Or.inl rfl | exact Or.inr rfl))) (fun _ _ _ _ _ => (pts_one (pt_cmpR (eqDK K hr.units) (pe_lc (own := [("_law_near", 4)]) (g := (gName 4)) rfl sc__law_lows.nd (piLK K (pe_ix (ixLK K) (pv 2) (pv 3) (fun _ _ => rfl))) (blkOk_by (own := [("_law_near", 4)]) (N := N__law_lows) (sc := _) (by rfl)) (fun _ _ _ _ _ => (pg_name (i := 4) sc__law_lows.nd rfl (by first | exact Or.inl rfl | exact Or.inr rfl))) (fun _ _ _ _ _ => (pts_one (pt_cmpR op_lt (pe_ix (ixTK K) (pv 1) (pv 4) (fun _ _ => rfl)) (pe_ix (ixTK K) (pv 1) (pv 3) (fun _ _ => rfl)) (nomark _)))) (fun _ _ _ _ _ => (pv 4))) (pe_lst pa_nil) (nomark _)))) (fun _ _ _ _ _ => (pv 3)))))), rd_lows (B := lowB) (c := fun i j => decide (i < j)) (fun es h f => by
      unfold lowB
      congr 1; funext u
      by_cases q : h f ≤ h u
      · rw [decide_eq_true q, decide_eq_false (by omega)]; rfl
      · rw [decide_eq_false q, decide_eq_true (by omega)]; rfl) eH hW ok hL q⟩
theorem ok__law_highs (T : Tx K mg) : OkD P w K mg base 2 "_law_highs" ["_law_web_here", "_law_laying_here"] (sp_lows highB) := by
  refine mk__law_highs T (fun vs H Q E h => ?_) (fun f cdv A outer s H vs Q E hr h => ?_)
  · obtain ⟨S, v, n, es, l, h, rfl, _⟩ := h
    rfl
  · obtain ⟨S, v, n, es, l, h, rfl, eH, hW, ok, hL, q⟩ := h
    exact ⟨_, (pss_cons (ps_set (i := 2) sc__law_highs.nd rfl (.inr rfl) (pcall (ok__law_nears T) (hr.mono (by decide)) (pa_cons (pv 0) pa_nil)))
    (pss_one (ps_ret (pe_lc (own := [("_law_field", 3)]) (g := (gName 3)) rfl sc__law_highs.nd (pi_range1 (by rfl) T.b_range (pa_cons (pe_ix (ixTK K) (pv 0) pe_int (fun _ _ => rfl)) pa_nil)) (blkOk_by (own := [("_law_field", 3)]) (N := N__law_highs) (sc := defScope s__law_highs) (by decide +kernel)) (fun _ _ _ _ _ => (pg_name (i := 3) sc__law_highs.nd rfl (by first | exact Or.inl rfl | exact Or.inr rfl))) (fun _ _ _ _ _ => (pts_one (pt_cmpR (eqDK K hr.units) (pe_lc (own := [("_law_near", 4)]) (g := (gName 4)) rfl sc__law_highs.nd (piLK K (pe_ix (ixLK K) (pv 2) (pv 3) (fun _ _ => rfl))) (blkOk_by (own := [("_law_near", 4)]) (N := N__law_highs) (sc := _) (by rfl)) (fun _ _ _ _ _ => (pg_name (i := 4) sc__law_highs.nd rfl (by first | exact Or.inl rfl | exact Or.inr rfl))) (fun _ _ _ _ _ => (pts_one (pt_cmpR op_gt (pe_ix (ixTK K) (pv 1) (pv 4) (fun _ _ => rfl)) (pe_ix (ixTK K) (pv 1) (pv 3) (fun _ _ => rfl)) (nomark _)))) (fun _ _ _ _ _ => (pv 4))) (pe_lst pa_nil) (nomark _)))) (fun _ _ _ _ _ => (pv 3)))))), rd_lows (B := highB) (c := fun i j => decide (j < i)) (fun es h f => by
      unfold highB
      congr 1; funext u
      by_cases q : h u ≤ h f
      · rw [decide_eq_true q, decide_eq_false (by omega)]; rfl
      · rw [decide_eq_false q, decide_eq_true (by omega)]; rfl) eH hW ok hL q⟩
end
end Tr
end
section
set_option Elab.async false
set_option linter.all false
set_option maxRecDepth 100000
set_option maxHeartbeats 4000000
namespace Tr
open PySem PySem.Spec PyProof.Rows L2 Evl
theorem cutTo (xs : List V) (f : Nat) : cutV xs none (some (f : Int)) = xs.take f := by
  unfold cutV
  rw [HT.sIx_none, HT.sIx_nat]
  show (xs.drop 0).take (min f xs.length - 0) = xs.take f
  rw [List.drop_zero, Nat.sub_zero, List.take_eq_take_iff]
  omega
theorem cutFrom (xs : List V) (f : Nat) : cutV xs (some (f : Int)) none = xs.drop f := by
  unfold cutV
  rw [HT.sIx_none, HT.sIx_nat]
  by_cases h : f ≤ xs.length
  · rw [Nat.min_eq_left h]
    exact List.take_of_length_le (by rw [List.length_drop]; exact Nat.le_refl _)
  · rw [Nat.min_eq_right (by omega), List.drop_length, List.drop_of_length_le (by omega), List.take_nil]
section
variable {P : Program} {w : World} {K : PySem.W.Frag} {mg : Str → Option Value} {base : Heap}
def sp_changed : Sp := fun vs H Q _ => ∃ (S : Hp) (l : V) (n f : Nat) (by_ : Int) (h : Nat → Int), vs = [l, .int (f : Int), .int by_] ∧ Ex S H ∧ n ≤ 60 ∧ f < n ∧ LayV S l n h ∧
  RetG S H (fun r S' => LayV S' r n (updF h f (h f + by_))) Q
theorem sp_changed_ok {S : Hp} {l : V} {n f : Nat} {b : Int} {h : Nat → Int} (hn : n ≤ 60) (hf : f < n) (hL : LayV S l n h) : SpG sp_changed ([l, .int (f : Int), .int b] ++ []) S (fun r S' => LayV S' r n (updF h f (h f + b))) := fun H e Q E q => ⟨S, l, n, f, b, h, rfl, e, hn, hf, hL, q⟩
theorem ok__law_changed (T : Tx K mg) : OkD P w K mg base 1 "_law_changed" ["_law_laying_here", "_law_field", "_law_by"] sp_changed := by
  refine mk__law_changed T (fun vs H Q E h => ?_) (fun f cdv A outer s H vs Q E hr h => ?_)
  · obtain ⟨S, l, n, f, b, h, rfl, _⟩ := h
    rfl
  · obtain ⟨S, l, n, f, b, h, rfl, eH, hn, hf, hL, q⟩ := h
    refine ⟨_, (pss_one (ps_ret (pe_op (catAK K) (pe_op (catAK K) (pe_slice (slAK K) (pv 0) po_none (po_some (pv 1))) (pe_tup (pa_cons (pe_op op_add (pe_ix (ixTK K) (pv 0) (pv 1) (fun _ _ => rfl)) (pv 2)) pa_nil))) (pe_slice (slAK K) (pv 0) (po_some (pe_op op_add (pv 1) pe_int)) po_none)))), ?_⟩
    have hlen : (iV (tabI n h)).length = n := by rw [iV_len, tabI_len]
    have e1 : (cutV (iV (tabI n h)) none (some (f : Int)) ++ [.int (h f + b)]) ++ cutV (iV (tabI n h)) (some ((f + 1 : Nat) : Int)) none = iV (tabI n (updF h f (h f + b))) := by
      rw [cutTo, cutFrom, List.append_assoc]
      have : (iV (tabI n h)).set f (.int (h f + b)) = iV (tabI n (updF h f (h f + b))) := by
        unfold tabI
        rw [← tab_set]
        unfold iV
        rw [List.map_set]
      rw [← this, List.set_eq_take_append_cons_drop, if_pos (by rw [hlen]; exact hf)]
      rfl
    refine s_retG (S := S) (P := fun r S' => LayV S' r n (updF h f (h f + b))) ?_ eH q
    refine EvG.imp (eg_catA (xs := cutV (iV (tabI n h)) none (some (f : Int)) ++ [.int (h f + b)]) (ys := cutV (iV (tabI n h)) (some ((f + 1 : Nat) : Int)) none) (eg_catA (xs := cutV (iV (tabI n h)) none (some (f : Int))) (ys := [.int (h f + b)]) (eg_slA (v := l) (ev_var rfl) eo_none (eo_some (ev_var rfl)) hL) (fun S1 e => EvG.ofU (xs := [.int (h f + b)]) (eu_tup (ea_cons (ev_op (x := .int (h f)) (y := .int b) (ev_ixT (j := f) (ev_var rfl) (ev_var rfl) (hL.mono e) (iV_get (tabI_get hf))) (ev_var rfl) rv_I0) ea_nil) (by show 1 ≤ 100000; decide)) fun p S' _ hp => ⟨p, rfl, hp⟩) ?_) (fun S1 e => eg_slA (v := l) (ev_var rfl) (eo_some (ev_is (ev_op (x := .int (f : Int)) (y := .int 1) (ev_var rfl) ev_c rv_I0) (by rw [Int.natCast_add]; rfl))) eo_none (hL.mono e)) ?_) fun r S' _ hr => by
      unfold LayV
      rw [← e1]; exact hr
    · have := cutV_length (iV (tabI n h)) none (some (f : Int))
      rw [hlen] at this
      show _ + 1 ≤ 100000
      omega
    · have := cutV_length (iV (tabI n h)) none (some (f : Int))
      have h2 := cutV_length (iV (tabI n h)) (some ((f + 1 : Nat) : Int)) none
      rw [hlen] at this h2
      rw [List.length_append, List.length_singleton]
      omega
/-! ### the next layings -/
def NextR (S : Hp) (n : Nat) (es : List (Nat × Nat)) (h : Nat → Int) (p : V) : Prop := ∃ f, f < n ∧ ((lowB es h f = true ∧ LayV S p n (updF h f (h f + 2))) ∨ (highB es h f = true ∧ LayV S p n (updF h f (h f + (0 - 2)))))
theorem NextR.mono {S S' : Hp} {n : Nat} {es : List (Nat × Nat)} {h : Nat → Int} {p : V} (e : Ex S S') (q : NextR S n es h p) : NextR S' n es h p := by
  obtain ⟨f, hf, q | q⟩ := q
  · exact ⟨f, hf, .inl ⟨q.1, q.2.mono e⟩⟩
  · exact ⟨f, hf, .inr ⟨q.1, q.2.mono e⟩⟩
def sp_next : Sp := fun vs H Q _ => ∃ (S : Hp) (v : V) (n : Nat) (es : List (Nat × Nat)) (l : V) (h : Nat → Int), vs = [v, l] ∧ Ex S H ∧ WebV S v n es ∧ EdgesOk n es ∧ 0 < n ∧ LayV S l n h ∧
  RetG S H (fun r S' => ∃ ps, LstA S' r ps ∧ 0 < ps.length ∧ ps.length ≤ 2000 ∧ ∀ p ∈ ps, NextR S' n es h p) Q
theorem sp_next_ok {S : Hp} {v l : V} {n : Nat} {es : List (Nat × Nat)} {h : Nat → Int} (hW : WebV S v n es) (ok : EdgesOk n es) (hn : 0 < n) (hL : LayV S l n h) : SpG sp_next ([v, l] ++ []) S (fun r S' => ∃ ps, LstA S' r ps ∧ 0 < ps.length ∧ ps.length ≤ 2000 ∧ ∀ p ∈ ps, NextR S' n es h p) := fun H e Q E q => ⟨S, v, n, es, l, h, rfl, e, hW, ok, hn, hL, q⟩
theorem turns_nats {σ : L2.St} {S : Hp} {tl : TE} {xs : List Nat} {j : Nat} (h : EvG tl σ S fun v S' => LstA S' v (nV xs)) : Turns (iList K tl) (gName j) σ S xs.length fun i σ' => σ'.set j (some (.int (xs.getD i 0 : Int))) :=
  turns_new (K := K) h fun v S1 e ⟨a, ev, ha⟩ => ⟨a, nV xs, ev, sq_of ha, nV_len, fun i x H σ' Q hx e q => by
    unfold nV at hx
    rw [List.getElem?_map] at hx
    cases hb : xs[i]? with
    | none => rw [hb] at hx; cases hx
    | some b =>
      rw [hb] at hx
      have e2 : xs.getD i 0 = b := by rw [List.getD_eq_getElem?_getD, hb]; rfl
      have := q H (Ex.refl _)
      rw [e2] at this
      cases hx
      exact this⟩
theorem filt_len {n : Nat} {p : Nat → Bool} : ((List.range n).filter p).length ≤ n := Nat.le_trans (List.length_filter_le _ _) (by rw [List.length_range]; exact Nat.le_refl _)
theorem getD_memN {xs : List Nat} {i : Nat} (h : i < xs.length) : xs.getD i 0 ∈ xs := by rw [List.getD_eq_getElem?_getD, List.getElem?_eq_getElem h]; exact List.getElem_mem h
theorem filt_mem {n : Nat} {p : Nat → Bool} {i : Nat} (h : i < ((List.range n).filter p).length) : ((List.range n).filter p).getD i 0 < n ∧ p (((List.range n).filter p).getD i 0) = true := by
  have := List.mem_filter.mp (getD_memN h)
  exact ⟨List.mem_range.mp this.1, this.2⟩
theorem ok__law_next (T : Tx K mg) : OkD P w K mg base 3 "_law_next" ["_law_web_here", "_law_laying_here"] sp_next := by
  refine mk__law_next T (fun vs H Q E h => ?_) (fun f cdv A outer s H vs Q E hr h => ?_)
  · obtain ⟨S, v, n, es, l, h, rfl, _⟩ := h
    rfl
  · obtain ⟨S, v, n, es, l, h, rfl, eH, hW, ok, hn0, hL, q⟩ := h
    refine ⟨_, (pss_cons (ps_setLc (i := 2) (own := [("_law_field", 3)]) (g := (gName 3)) rfl sc__law_next.nd rfl rfl (sw_true rfl rfl rfl (by decide +kernel)) (piLK K (pcall (ok__law_lows T) (hr.mono (by decide)) (pa_cons (pv 0) (pa_cons (pv 1) pa_nil)))) (blkOk_by (own := [("_law_field", 3)]) (N := N__law_next) (sc := defScope s__law_next) (by decide +kernel)) (fun _ _ _ _ _ => (pg_name (i := 3) sc__law_next.nd rfl (by first | exact Or.inl rfl | exact Or.inr rfl))) (fun _ _ _ _ _ => pts_nil) (fun _ _ _ _ _ => (pcall (ok__law_changed T) (hr.mono (by decide)) (pa_cons (pv 1) (pa_cons (pv 3) (pa_cons pe_int pa_nil))))))
    (pss_one (ps_ret (pe_callB (sortedTUK K) (by rfl) T.b_sorted (by decide +kernel) (pa_cons (pe_op op_cat (pv 2) (pe_lc (own := [("_law_field", 3)]) (g := (gName 3)) rfl sc__law_next.nd (piLK K (pcall (ok__law_highs T) (hr.mono (by decide)) (pa_cons (pv 0) (pa_cons (pv 1) pa_nil)))) (blkOk_by (own := [("_law_field", 3)]) (N := N__law_next) (sc := defScope s__law_next) (by decide +kernel)) (fun _ _ _ _ _ => (pg_name (i := 3) sc__law_next.nd rfl (by first | exact Or.inl rfl | exact Or.inr rfl))) (fun _ _ _ _ _ => pts_nil) (fun _ _ _ _ _ => (pcall (ok__law_changed T) (hr.mono (by decide)) (pa_cons (pv 1) (pa_cons (pv 3) (pa_cons (pe_op op_sub pe_int pe_int) pa_nil))))))) pa_nil))))), ?_⟩
    have hhi := ok.hi
    have hE : ∀ e ∈ es, e.1 < n ∧ e.2 < n := fun e he => by have := ok.ok e he; omega
    have step : ∀ (b : Int) (lsF : Nat → Bool) (tC2 : TE) (σ : L2.St) (S0 : Hp) (tl : TE), (∀ σ' S', Ev tC2 σ' S' (.int b)) → 3 < σ.length → σ[1]? = some (some l) → Ex S S0 → EvG tl σ S0 (fun v S' => LstA S' v (nV ((List.range n).filter lsF))) →
        EvG (tLc (iList K tl) (gName 3) tYes (tCall sp_changed [] E0 (tCons (tVar 1) (tCons (tVar 3) (tCons tC2 tNil)))) [3]) σ S0 fun v S' => ∃ acc, LstA S' v acc ∧ Paired (fun y i => LayV S' y n (updF h (((List.range n).filter lsF).getD i 0) (h (((List.range n).filter lsF).getD i 0) + b))) acc (List.range ((List.range n).filter lsF).length) := fun b lsF tC2 σ S0 tl hC hσ h1 e0 hl => by
      have hll := filt_len (n := n) (p := lsF)
      refine lc_mapG (fun i y S' => LayV S' y n (updF h (((List.range n).filter lsF).getD i 0) (h (((List.range n).filter lsF).getD i 0) + b))) (fun i y A B e q => q.mono e) (turns_nats hl) (fun i _ => set1_wipe _ _ _) (by omega) (fun i S1 hi e => ?_)
      refine eg_call (ea_cons (x := l) (ev_var ?_) (ea_cons (ev_var ?_) (ea_cons (hC _ _) ea_nil))) (sp_changed_ok ok.hi (filt_mem hi).1 ((hL.mono e0).mono e))
      · rw [List.getElem?_set_ne (by decide)]
        show ((σ.set 3 none))[1]? = _
        rw [List.getElem?_set_ne (by decide)]; exact h1
      · rw [List.getElem?_set_self (by show 3 < (wipe σ [3]).length; rw [wipe_length]; exact hσ)]
    refine q_asgG (S := S) (P := fun r S' => ∃ acc, LstA S' r acc ∧ Paired (fun y i => LayV S' y n (updF h (((List.range n).filter (lowB es h)).getD i 0) (h (((List.range n).filter (lowB es h)).getD i 0) + 2))) acc (List.range ((List.range n).filter (lowB es h)).length)) (step 2 (lowB es h) _ (start N__law_next [v, l]) S _ (fun _ _ => ev_c) (by show 3 < 4; decide) rfl (Ex.refl S) (eg_call (ea_cons (ev_var rfl) (ea_cons (ev_var rfl) ea_nil)) (sp_lows_ok hW ok hL))) eH (fun fv S1 H1 g1 ⟨acc, hacc, hp1⟩ => ?_)
    have hl1 := filt_len (n := n) (p := lowB es h)
    have hl2 := filt_len (n := n) (p := highB es h)
    refine s_retG (S := S1) (P := fun r S' => ∃ ps, LstA S' r ps ∧ 0 < ps.length ∧ ps.length ≤ 2000 ∧ ∀ p ∈ ps, NextR S' n es h p) ?_ g1.i fun r S2 H2 g2 p => q r S2 H2 (g1.trans g2) p
    refine EvG.imp (eg_sortedTU (d := n) (P := fun xs S' => 0 < xs.length ∧ xs.length ≤ 2000 ∧ ∀ p ∈ xs, NextR S' n es h p) hn0 (EvG.imp (eg_catL (P1 := fun xs S' => 0 < xs.length ∧ ∀ p ∈ xs, NextR S' n es h p) (P2 := fun xs S' => ∀ p ∈ xs, NextR S' n es h p) (EvG.of (v := fv) (ev_var rfl) fun S' e => ⟨acc, hacc.mono e, by rw [hp1.length, List.length_range]; omega, ?_, fun p hp => ?_⟩) (fun S2 e2 => EvG.imp (step (0 - 2) (highB es h) _ [some v, some l, some fv, none] S2 _ (fun _ _ => ev_op ev_c ev_c rv_I0) (by show 3 < 4; decide) rfl (g1.s.trans e2) (eg_call (ea_cons (ev_var rfl) (ea_cons (ev_var rfl) ea_nil)) (sp_lows_ok ((hW.mono g1.s).mono e2) ok ((hL.mono g1.s).mono e2)))) fun r S' e ⟨acc2, hacc2, hp2⟩ => ⟨acc2, hacc2, by rw [hp2.length, List.length_range]; omega, fun p hp => ?_⟩) (fun xs A B e q => ⟨q.1, fun p hp => (q.2 p hp).mono e⟩) (fun xs A B e q p hp => (q p hp).mono e)) fun r S' e ⟨xs, ys, hr, l1, l2, p1, p2⟩ => ⟨xs ++ ys, hr, fun x hx => ?_, by rw [List.length_append]; omega, by rw [List.length_append]; omega, fun p hp => ?_⟩) (fun xs A B e q => ⟨q.1, q.2.1, fun p hp => (q.2.2 p hp).mono e⟩)) fun r S' e ⟨xs, ys, hr, hperm, p1, p2, p3⟩ => ⟨ys, hr, by rw [hperm.length_eq]; exact p1, by rw [hperm.length_eq]; exact p2, fun p hp => p3 p (hperm.mem_iff.mp hp)⟩
    · rw [hp1.length, List.length_range]
      obtain ⟨f, hf, hlow⟩ := low_ex (es := es) (h := h) hn0 hE
      exact List.length_pos_of_mem (List.mem_filter.mpr ⟨List.mem_range.mpr hf, hlow⟩)
    · obtain ⟨i, hi, hq⟩ := paired_mem hp1 p hp
      have := filt_mem (List.mem_range.mp hi)
      exact ⟨_, this.1, .inl ⟨this.2, hq.mono e⟩⟩
    · obtain ⟨i, hi, hq⟩ := paired_mem hp2 p hp
      have := filt_mem (List.mem_range.mp hi)
      exact ⟨_, this.1, .inr ⟨this.2, hq⟩⟩
    · have hN : NextR S' n es h x := by
        rcases List.mem_append.mp hx with hx | hx
        · exact p1.2 x hx
        · exact p2 x hx
      obtain ⟨f, hf, ⟨_, z⟩ | ⟨_, z⟩⟩ := hN
      · exact ⟨_, z, tabI_len _ _⟩
      · exact ⟨_, z, tabI_len _ _⟩
    · rcases List.mem_append.mp hp with hx | hx
      · exact p1.2 p hx
      · exact p2 p hx
end
end Tr
end
section
set_option linter.all false
/-! layings drawn from distances. Plain Lean. -/
namespace Tr
structure Half (n : Nat) (es : List (Nat × Nat)) (c : Nat → Nat) (ht B : Int) (h : Nat → Int) : Prop where
  par : ∀ v, v < n → (h v + c v + c 0 - ht) % 2 = 0
  lip : ∀ u v, u < n → v < n → Adj es u v → h u ≤ h v + 1
  bd : ∀ v, v < n → -B ≤ h v ∧ h v ≤ B
section
variable {n : Nat} {es : List (Nat × Nat)} {c : Nat → Nat} {ht B : Int} {h g : Nat → Int} {d0 d : Nat → Nat} {f t : Nat}
theorem Half.up (hn : n ≤ 7) (h0 : 0 ≤ ht) (h2 : ht ≤ 2) (ht5 : t < 5) (C : Col es c) (D0 : DistL es n 0 d0) (D : DistL es n f d) (hf : f < n) : Half n es c ht 20 fun v => ht + (d0 f : Int) + 2 * ((t : Int) - 2) + (d v : Int) where
  par := fun v hv => by
    have p1 := D0.w.par C f hf
    have p2 := D.w.par C v hv
    show (ht + (d0 f : Int) + 2 * ((t : Int) - 2) + (d v : Int) + (c v : Int) + (c 0 : Int) - ht) % 2 = 0
    omega
  lip := fun u v hu hv ha => by
    have := D.lip v u hv hu ha.symm
    show ht + (d0 f : Int) + 2 * ((t : Int) - 2) + (d u : Int) ≤ ht + (d0 f : Int) + 2 * ((t : Int) - 2) + (d v : Int) + 1
    omega
  bd := fun v hv => by
    have := D0.lt f hf
    have := D.lt v hv
    show -20 ≤ ht + (d0 f : Int) + 2 * ((t : Int) - 2) + (d v : Int) ∧ ht + (d0 f : Int) + 2 * ((t : Int) - 2) + (d v : Int) ≤ 20
    omega
theorem Half.down (hn : n ≤ 7) (h0 : 0 ≤ ht) (h2 : ht ≤ 2) (ht5 : t < 5) (C : Col es c) (D0 : DistL es n 0 d0) (D : DistL es n f d) (hf : f < n) : Half n es c ht 20 fun v => ht + (d0 f : Int) + 2 * ((t : Int) - 2) - (d v : Int) where
  par := fun v hv => by
    have p1 := D0.w.par C f hf
    have p2 := D.w.par C v hv
    show (ht + (d0 f : Int) + 2 * ((t : Int) - 2) - (d v : Int) + (c v : Int) + (c 0 : Int) - ht) % 2 = 0
    omega
  lip := fun u v hu hv ha => by
    have := D.lip u v hu hv ha
    show ht + (d0 f : Int) + 2 * ((t : Int) - 2) - (d u : Int) ≤ ht + (d0 f : Int) + 2 * ((t : Int) - 2) - (d v : Int) + 1
    omega
  bd := fun v hv => by
    have := D0.lt f hf
    have := D.lt v hv
    show -20 ≤ ht + (d0 f : Int) + 2 * ((t : Int) - 2) - (d v : Int) ∧ ht + (d0 f : Int) + 2 * ((t : Int) - 2) - (d v : Int) ≤ 20
    omega
theorem Half.min (a : Half n es c ht B h) (b : Half n es c ht B g) : Half n es c ht B fun v => if g v < h v then g v else h v where
  par := fun v hv => by
    have := a.par v hv
    have := b.par v hv
    split <;> omega
  lip := fun u v hu hv ha => by
    have := a.lip u v hu hv ha
    have := b.lip u v hu hv ha
    split <;> split <;> omega
  bd := fun v hv => by
    have := a.bd v hv
    have := b.bd v hv
    split <;> omega
theorem Half.max (a : Half n es c ht B h) (b : Half n es c ht B g) : Half n es c ht B fun v => if g v > h v then g v else h v where
  par := fun v hv => by
    have := a.par v hv
    have := b.par v hv
    split <;> omega
  lip := fun u v hu hv ha => by
    have := a.lip u v hu hv ha
    have := b.lip u v hu hv ha
    split <;> split <;> omega
  bd := fun v hv => by
    have := a.bd v hv
    have := b.bd v hv
    split <;> omega
/-- a laying of the height's parity at the field 0, within bounds -/
structure LayP (n : Nat) (es : List (Nat × Nat)) (ht B : Int) (h : Nat → Int) : Prop where
  lay : Lay es h
  par : (h 0 - ht) % 2 = 0
  bd : ∀ v, v < n → -B ≤ h v ∧ h v ≤ B
theorem Half.layP (a : Half n es c ht B h) (hn : 0 < n) (hE : ∀ e ∈ es, e.1 < n ∧ e.2 < n) (C : Col es c) : LayP n es ht B h where
  lay := Lay.of fun u v ha => by
    have hu : u < n := by
      rcases ha with q | q
      · exact (hE _ q).1
      · exact (hE _ q).2
    have hv : v < n := by
      rcases ha with q | q
      · exact (hE _ q).2
      · exact (hE _ q).1
    have := a.lip u v hu hv ha
    have := a.lip v u hv hu ha.symm
    have := a.par u hu
    have := a.par v hv
    have := C u v ha
    omega
  par := by have := a.par 0 hn; omega
  bd := a.bd
theorem LayP.raise (L : LayP n es ht B h) (hd : ∀ e ∈ es, e.1 ≠ e.2) {f : Nat} (hl : lowB es h f = true) : LayP n es ht (B + 2) (updF h f (h f + 2)) where
  lay := L.lay.raise hd hl
  par := by
    by_cases e : 0 = f
    · subst e; rw [updF_same]; have := L.par; omega
    · rw [updF_ne e]; exact L.par
  bd := fun v hv => by
    have := L.bd v hv
    by_cases e : v = f
    · subst e; rw [updF_same]; omega
    · rw [updF_ne e]; omega
theorem LayP.lower (L : LayP n es ht B h) (hd : ∀ e ∈ es, e.1 ≠ e.2) {f : Nat} (hl : highB es h f = true) : LayP n es ht (B + 2) (updF h f (h f + (0 - 2))) where
  lay := L.lay.lower hd hl
  par := by
    by_cases e : 0 = f
    · subst e; rw [updF_same]; have := L.par; omega
    · rw [updF_ne e]; exact L.par
  bd := fun v hv => by
    have := L.bd v hv
    by_cases e : v = f
    · subst e; rw [updF_same]; omega
    · rw [updF_ne e]; omega
theorem LayP.wide (L : LayP n es ht B h) {B' : Int} (hB : B ≤ B') : LayP n es ht B' h := ⟨L.lay, L.par, fun v hv => by have := L.bd v hv; omega⟩
end
end Tr
end
section
set_option Elab.async false
set_option linter.all false
set_option maxRecDepth 100000
set_option maxHeartbeats 4000000
namespace Tr
open PySem PySem.Spec PyProof.Rows L2 Evl
section
variable {K : PySem.W.Frag} {σ : L2.St} {S H : Hp} {te ta tb t1 t2 : TE} {D : Ends} {Q : VK} {tz tu tw : TS} {tt : TT}
theorem rng1_go' {x : V} {m j : Nat} {tb : TS} (ex : x = .int (m : Int)) (hm : m ≤ 1000000) (Pv : Nat → L2.St → Hp → Prop) (h0 : Pv 0 σ H)
    (hs : ∀ i σ' H', i < m → Pv i σ' H' → tb { D with nx := Pv (i + 1), ct := Pv (i + 1), bk := D.nx } (σ'.set j (some (.int (i : Int)))) H') (hd : ∀ σ' H', Pv m σ' H' → D.nx σ' H') :
    ∃ k : Int, [x] = [.int k] ∧ -(2 ^ 62) ≤ k ∧ k < 2 ^ 62 ∧ ∃ W : Nat → Nat → L2.St → Hp → Prop, (∃ m, W 0 m σ H) ∧ ∀ i m σ H, W i m σ H →
  ((Itr 0 k.toNat).stop i H ∧ D.nx σ H) ∨ ((Itr 0 k.toNat).go i H ∧ ∃ N : L2.St → Hp → Prop, (∀ σ' H', N σ' H' → ∃ m', m' < m ∧ W (i + 1) m' σ' H') ∧ ∀ x H', (Itr 0 k.toNat).yld i H x H' → gName j x σ H' fun σ2 H2 => tb { D with nx := N, ct := N, bk := D.nx } σ2 H2) := by
  subst ex
  exact rng1_go hm Pv h0 hs hd
theorem x_nx {A : L2.St → Hp → Prop} (k : A σ H) : A σ H := k
theorem x_non {v : V} (k : Q v H) : tC v σ H Q := k
/-- over two lists of n heights -/
theorem turns_zipLL {l m : V} {n j k : Nat} {h g : Nat → Int} (h1 : Ev t1 σ S l) (h2 : Ev t2 σ S m) (hL : LstA S l (iV (tabI n h))) (hM : LstA S m (iV (tabI n g))) : Turns (RZ.iZipA K (tCons t1 (tCons t2 tNil))) (gTup K 2 (gCons (gName j) (gCons (gName k) gNil))) σ S n fun i σ' => (σ'.set j (some (.int (h i)))).set k (some (.int (g i))) := by
  obtain ⟨a, rfl, ha⟩ := hL
  obtain ⟨b, rfl, hb⟩ := hM
  refine turns_zip (P := fun vs _ => vs = [.ref a, .ref b]) (eag_cons h1 (eag_cons h2 (eag_nil rfl))) fun vs S1 e hv => ⟨a, b, iV (tabI n h), iV (tabI n g), hv, .inl ⟨sq_of (e _ _ ha), sq_of (e _ _ hb)⟩, by rw [iV_len, iV_len, tabI_len, tabI_len, Nat.min_self], fun i x y T H σ' Q hx hy e' hT q => ?_⟩
  have hi : i < n := by
    obtain ⟨q, _⟩ := List.getElem?_eq_some_iff.mp hx
    rw [iV_len, tabI_len] at q; exact q
  rw [iV_get (tabI_get hi)] at hx hy
  cases hx; cases hy
  exact g_pair (st_of hT) (q H (Ex.refl _))
theorem tabN_getD {n : Nat} {d : Nat → Nat} {i : Nat} (hi : i < n) : (tabN n d).getD i 0 = d i := by
  rw [List.getD_eq_getElem?_getD, tabN_get hi]; rfl
end
section
variable {P : Program} {w : World} {K : PySem.W.Frag} {mg : Str → Option Value} {base : Heap}
def sp_llay (K : PySem.W.Frag) : Sp := fun vs H Q _ => ∃ (S : Hp) (r a : Addr) (ns : List Int) (v : V) (n : Nat) (es : List (Nat × Nat)) (c : Nat → Nat) (ht : Int), vs = [.ref r, v, .int ht] ∧ Row K S H r a ns ∧ WebV S v n es ∧ WebOk n es c ∧ n ≤ 7 ∧ 0 ≤ ht ∧ ht ≤ 2 ∧
  RetR K S H r a ns (fun l S' => ∃ h, LayV S' l n h ∧ LayP n es ht 30 h) Q
theorem sp_llay_ok {S H : Hp} {r a : Addr} {ns : List Int} {v : V} {n : Nat} {es : List (Nat × Nat)} {c : Nat → Nat} {ht : Int} (R : Row K S H r a ns) (hW : WebV S v n es) (ok : WebOk n es c) (hn : n ≤ 7) (h0 : 0 ≤ ht) (h2 : ht ≤ 2) : SpR K (sp_llay K) ([.ref r, v, .int ht] ++ []) S H r a ns (fun l S' => ∃ h, LayV S' l n h ∧ LayP n es ht 30 h) := fun Q E q => ⟨S, r, a, ns, v, n, es, c, ht, rfl, R, hW, ok, hn, h0, h2, q⟩
theorem ok__law_laying (T : Tx K mg) : OkD P w K mg base 4 "_law_laying" ["_law_row", "_law_web_here", "_law_height"] (sp_llay K) := by
  refine mk__law_laying T (fun vs H Q E h => ?_) (fun f cdv A outer s H vs Q E hr h => ?_)
  · obtain ⟨S, r, a, ns, v, n, es, c, ht, rfl, _⟩ := h
    rfl
  · obtain ⟨S, r, a, ns, v, n, es, c, ht, rfl, R, hW, ok, hn7, h0, h2, q⟩ := h
    refine ⟨_, (pss_cons (ps_asg (pe_tup (pa_cons (pcall (ok__law_far T) (hr.mono (by decide)) (pa_cons (pv 1) (pa_cons pe_int pa_nil))) (pa_cons (pcall (ok__law_taken T) (hr.mono (by decide)) (pa_cons (pv 0) (pa_cons pe_int pa_nil))) (pa_cons pe_non pa_nil)))) (pg_tup rfl (pgs_cons (pg_name (i := 3) sc__law_laying.nd rfl (Or.inl rfl)) (pgs_cons (pg_name (i := 4) sc__law_laying.nd rfl (Or.inr rfl)) (pgs_cons (pg_name (i := 5) sc__law_laying.nd rfl (Or.inl rfl)) pgs_nil)))))
    (pss_cons (ps_for PassesOwn.never rfl (pi_range1 (by rfl) T.b_range (pa_cons (pe_op op_add pe_int (pcall (ok__law_taken T) (hr.mono (by decide)) (pa_cons (pv 0) (pa_cons pe_int pa_nil)))) pa_nil)) (pg_name (i := 6) sc__law_laying.nd rfl (Or.inl rfl))
      (pss_cons (ps_set (i := 7) sc__law_laying.nd rfl (.inl rfl) (pcall (ok__law_taken T) (hr.mono (by decide)) (pa_cons (pv 0) (pa_cons (pe_ix (ixTK K) (pv 1) pe_int (fun _ _ => rfl)) pa_nil))))
    (pss_cons (ps_set (i := 8) sc__law_laying.nd rfl (.inr rfl) (pe_op op_add (pe_op op_add (pv 2) (pe_ix (ixLK K) (pv 3) (pv 7) (fun _ _ => rfl))) (pe_op op_mul pe_int (pe_op op_sub (pcall (ok__law_taken T) (hr.mono (by decide)) (pa_cons (pv 0) (pa_cons pe_int pa_nil))) pe_int))))
    (pss_cons (ps_set (i := 9) sc__law_laying.nd rfl (.inl rfl) (pcall (ok__law_far T) (hr.mono (by decide)) (pa_cons (pv 1) (pa_cons (pv 7) pa_nil))))
    (pss_cons (ps_set (i := 10) sc__law_laying.nd rfl (.inl rfl) (pe_ifExp (pt_cmpR op_eq (pv 4) pe_int (nomark _)) (pe_lc (own := [("_law_many", 12)]) (g := (gName 12)) rfl sc__law_laying.nd (piLK K (pv 9)) (blkOk_by (own := [("_law_many", 12)]) (N := N__law_laying) (sc := defScope s__law_laying) (by decide +kernel)) (fun _ _ _ _ _ => (pg_name (i := 12) sc__law_laying.nd rfl (by first | exact Or.inl rfl | exact Or.inr rfl))) (fun _ _ _ _ _ => pts_nil) (fun _ _ _ _ _ => (pe_op op_add (pv 8) (pv 12)))) (pe_lc (own := [("_law_many", 12)]) (g := (gName 12)) rfl sc__law_laying.nd (piLK K (pv 9)) (blkOk_by (own := [("_law_many", 12)]) (N := N__law_laying) (sc := defScope s__law_laying) (by decide +kernel)) (fun _ _ _ _ _ => (pg_name (i := 12) sc__law_laying.nd rfl (by first | exact Or.inl rfl | exact Or.inr rfl))) (fun _ _ _ _ _ => pts_nil) (fun _ _ _ _ _ => (pe_op op_sub (pv 8) (pv 12))))))
    (pss_one (ps_if (pt_cmpR op_isN1 (pv 5) pe_non (nomark _))
      (pss_one (ps_set (i := 5) sc__law_laying.nd rfl (.inl rfl) (pv 10)))
      (pss_one (ps_setLc (i := 5) (own := [("_law_one", 13), ("_law_other", 14)]) (g := (gTup K 2 (gCons (gName 13) (gCons (gName 14) gNil)))) rfl sc__law_laying.nd rfl rfl (sw_true rfl rfl rfl (by decide +kernel)) (RZ.pi_zipA (by rfl) T.b_zip (pa_cons (pv 5) (pa_cons (pv 10) pa_nil))) (blkOk_by (own := [("_law_one", 13), ("_law_other", 14)]) (N := N__law_laying) (sc := defScope s__law_laying) (by decide +kernel)) (fun _ _ _ _ _ => (pg_tup rfl (pgs_cons (pg_name (i := 13) sc__law_laying.nd rfl (by first | exact Or.inl rfl | exact Or.inr rfl)) (pgs_cons (pg_name (i := 14) sc__law_laying.nd rfl (by first | exact Or.inl rfl | exact Or.inr rfl)) pgs_nil)))) (fun _ _ _ _ _ => pts_nil) (fun _ _ _ _ _ => (pe_ifExp (pt_cmpR op_eq (pv 4) pe_int (nomark _)) (pe_callB (cr_min2 rfl) (by rfl) T.b_min (by decide +kernel) (pa_cons (pv 13) (pa_cons (pv 14) pa_nil))) (pe_callB (cr_max2 rfl) (by rfl) T.b_max (by decide +kernel) (pa_cons (pv 13) (pa_cons (pv 14) pa_nil))))))))))))))
    (pss_cons (ps_set (i := 11) sc__law_laying.nd rfl (.inl rfl) (pe_callTy (tupOfK K) (by rfl) T.b_tuple (by decide +kernel) (pa_cons (pv 5) pa_nil)))
    (pss_cons (ps_for PassesOwn.never rfl (pi_range1 (by rfl) T.b_range (pa_cons (pcall (ok__law_taken T) (hr.mono (by decide)) (pa_cons (pv 0) (pa_cons pe_int pa_nil))) pa_nil)) (pg_name (i := 6) sc__law_laying.nd rfl (Or.inl rfl))
      (pss_one (ps_set (i := 11) sc__law_laying.nd rfl (.inl rfl) (pcall (ok__law_pick T) (hr.mono (by decide)) (pa_cons (pv 0) (pa_cons (pcall (ok__law_next T) (hr.mono (by decide)) (pa_cons (pv 1) (pa_cons (pv 11) pa_nil))) pa_nil))))))
    (pss_one (ps_ret (pv 11))))))), ?_⟩
    obtain ⟨b, hT, hB⟩ := id hW
    have hn0 := ok.form.lo
    have hedge := ok.form.edges
    have hE : ∀ e ∈ es, e.1 < n ∧ e.2 < n := fun e he => by have := ok.form.ok e he; omega
    have hne : ∀ e ∈ es, e.1 ≠ e.2 := fun e he => by have := ok.form.ok e he; omega
    refine x_seq ?_
    show tTup _ (start N__law_laying [.ref r, v, .int ht]) H _
    refine x_cons ?_
    refine eg_call (σ := start N__law_laying [.ref r, v, .int ht]) (S := S) (ea_cons (ev_var rfl) (ea_cons ev_c ea_nil)) (sp_far_ok (first := 0) hW hedge ok.conn hn0) H R.ex _ fun told S1 H1 g1 ⟨d0, hd0, hD0⟩ => x_cons ?_
    have R1 := R.grow g1
    refine er_call (K := K) (σ := start N__law_laying [.ref r, v, .int ht]) (S := S1) (H := H1) (vs := [.ref r, .int ((2 : Nat) : Int)]) R1 (ea_cons (ev_var rfl) (ea_cons ev_c ea_nil)) (fun H2 e2 R2 => sp_taken_ok R2 (by decide) (by decide)) _ fun v2 S2 H2 g2 R2 ⟨kind, ev, hkind⟩ => ?_
    subst ev
    refine x_cons (x_c (x_nil ⟨by show 3 ≤ sizeLine; decide, fun tp htp => ?_⟩))
    have g12 : Gr [r] S H S2 H2 := g1.any.trans g2
    have g3 : Gr [r] S H S2 (upd H2 tp (.tup [told, .int (kind : Int), .non])) := g12.trans (Gr.lay R2.ex htp)
    have R3 : Row K S2 (upd H2 tp (.tup [told, .int (kind : Int), .non])) r a ns := R2.up (Ex.new htp)
    refine ⟨tp, _, rfl, st_of upd_same, rfl, told, _, rfl, .int (kind : Int), _, rfl, .non, _, rfl, rfl, ?_⟩
    generalize upd H2 tp (.tup [told, .int (kind : Int), .non]) = H3 at g3 R3 ⊢
    dsimp only
    show tSeq _ _ _ [some (.ref r), some v, some (.int ht), some told, some (.int (kind : Int)), some .non, none, none, none, none, none, none, none, none, none] H3
    have hd0' := hd0.mono g2.s
    have x02 : Ex S S2 := g1.s.trans g2.s
    refine x_seq (x_for1 (x_cons (x_op (x_c ?_))))
    refine er_call (K := K) (σ := [some (.ref r), some v, some (.int ht), some told, some (.int (kind : Int)), some .non, none, none, none, none, none, none, none, none, none]) (S := S2) (H := H3) (vs := [.ref r, .int ((3 : Nat) : Int)]) R3 (ea_cons (ev_var rfl) (ea_cons ev_c ea_nil)) (fun H2 e2 R2 => sp_taken_ok R2 (by decide) (by decide)) _ fun v2 S4 H4 g4 R4 ⟨m, ev, hm⟩ => ?_
    subst ev
    refine ⟨_, _, rfl, rfl, x_nil ?_⟩
    have g34 := g3.trans g4
    refine rng1_go' (m := 1 + m) (by show V.int (1 + (m : Int)) = V.int ((1 + m : Nat) : Int); rw [Int.natCast_add]; rfl) (by omega) (fun i σ' H' => ∃ (S' : Hp) (fv : V) (y1 y2 y3 y4 y5 : Option V), σ' = [some (.ref r), some v, some (.int ht), some told, some (.int (kind : Int)), some fv, y1, y2, y3, y4, y5, none, none, none, none] ∧ Gr [r] S H S' H' ∧ Ex S2 S' ∧ Row K S' H' r a ns ∧ (i = 0 → fv = .non) ∧ (0 < i → ∃ h, LstA S' fv (iV (tabI n h)) ∧ Half n es c ht 20 h))
      ⟨S4, .non, none, none, none, none, none, rfl, g34, g4.s, R4, fun _ => rfl, fun h => absurd h (by omega)⟩ ?_ ?_
    · rintro i σ' H' hi ⟨S', fv, y1, y2, y3, y4, y5, rfl, gg, x2, R', hf0, hf1⟩
      have xS : Ex S S' := x02.trans x2
      show tSeq _ _ _ [some (.ref r), some v, some (.int ht), some told, some (.int (kind : Int)), some fv, some (.int (i : Int)), y2, y3, y4, y5, none, none, none, none] H'
      refine x_seq (x_asg ?_)
      refine er_call (K := K) (S := S') (H := H') (vs := [.ref r, .int (n : Int)]) R' (ea_cons (ev_var rfl) (ea_cons (ev_ixT (j := 0) (ev_var rfl) ev_c ((hT.mono xS).mono R'.ex) rfl) ea_nil)) (fun H5 e5 R5 => sp_taken_ok R5 hn0 (by omega)) _ fun v5 S5 H5 g5 R5 ⟨f, ev, hf⟩ => ?_
      subst ev
      dsimp only
      show tSeq _ _ _ [some (.ref r), some v, some (.int ht), some told, some (.int (kind : Int)), some fv, some (.int (i : Int)), some (.int (f : Int)), y3, y4, y5, none, none, none, none] H5
      refine x_seq (x_asg (x_op (x_ev (v := .int (ht + (d0 f : Int))) (ev_op (x := .int ht) (y := .int (d0 f : Int)) (ev_var rfl) (ev_ixL (j := f) (ev_var rfl) (ev_var rfl) (((hd0'.mono x2).mono g5.s).mono R5.ex) (nV_get (tabN_get hf))) rv_I0) fun H6 e6 => x_op (x_c (x_op ?_)))))
      refine er_call (K := K) (S := S5) (H := H6) (vs := [.ref r, .int ((5 : Nat) : Int)]) (R5.up e6) (ea_cons (ev_var rfl) (ea_cons ev_c ea_nil)) (fun H7 e7 R7 => sp_taken_ok R7 (by decide) (by decide)) _ fun v7 S7 H7 g7 R7 ⟨t, ev, ht5⟩ => ?_
      subst ev
      refine x_c ⟨_, _, rfl, rfl, ?_⟩
      refine ⟨_, _, rfl, rfl, .inl ⟨by decide, by decide⟩, _, _, rfl, rfl, ?_⟩
      dsimp only
      have g57 : Gr [r] S' H' S7 H7 := (g5.trans (Gr.of_ex R5.ex e6)).trans g7
      have gg7 := gg.trans g57
      obtain ⟨here, hhere⟩ : ∃ here : Int, here = ht + (d0 f : Int) + 2 * ((t : Int) - 2) := ⟨_, rfl⟩
      rw [← hhere]
      show tSeq _ _ _ [some (.ref r), some v, some (.int ht), some told, some (.int (kind : Int)), some fv, some (.int (i : Int)), some (.int (f : Int)), some (.int here), y4, y5, none, none, none, none] H7
      have xS7 : Ex S S7 := xS.trans g57.s
      refine q_asgG (S := S7) (eg_call (ea_cons (ev_var rfl) (ea_cons (ev_var rfl) ea_nil)) (sp_far_ok (first := f) (hW.mono xS7) hedge ok.conn hf)) R7.ex (fun away S8 H8 g8 ⟨d, hd, hD⟩ => ?_)
      have R8 := R7.grow g8
      have gg8 := gg7.trans g8.any
      show tSeq _ _ _ [some (.ref r), some v, some (.int ht), some told, some (.int (kind : Int)), some fv, some (.int (i : Int)), some (.int (f : Int)), some (.int here), some away, y5, none, none, none, none] H8
      have tabd : (tabN n d).length = n := by unfold tabN; rw [List.length_map, List.length_range]
      have hln : Turns (iList K (tVar 9)) (gName 12) [some (.ref r), some v, some (.int ht), some told, some (.int (kind : Int)), some fv, some (.int (i : Int)), some (.int (f : Int)), some (.int here), some away, y5, none, none, none, none] S8 n fun i σ' => σ'.set 12 (some (.int ((tabN n d).getD i 0 : Int))) := by
        have := turns_nats (K := K) (σ := [some (.ref r), some v, some (.int ht), some told, some (.int (kind : Int)), some fv, some (.int (i : Int)), some (.int (f : Int)), some (.int here), some away, y5, none, none, none, none]) (S := S8) (tl := tVar 9) (j := 12) (EvG.of (v := away) (ev_var rfl) fun S' e => hd.mono e)
        rw [tabd] at this
        exact this
      refine q_asgG (S := S8) (P := fun r S' => ∃ h, LstA S' r (iV (tabI n h)) ∧ Half n es c ht 20 h) (eg_if (b := decide (V.int (kind : Int) = V.int 0)) (et_test (ev_op (ev_var rfl) ev_c (rv_eq rfl))) (fun _ => EvG.imp (lc_map (n := n) (fun v => V.int (here + (d v : Int))) hln (fun i _ => set1_wipe _ _ _) (by omega) (fun j S9 hj e => ev_op (x := .int here) (y := .int (d j : Int)) (ev_var rfl) (ev_var (by rw [tabN_getD hj]; rfl)) rv_I0)) fun r S' _ hr => ⟨fun v => here + (d v : Int), by rw [iV_tab]; exact hr, by rw [hhere]; exact Half.up hn7 h0 h2 ht5 ok.col hD0 hD hf⟩)
        (fun _ => EvG.imp (lc_map (n := n) (fun v => V.int (here - (d v : Int))) hln (fun i _ => set1_wipe _ _ _) (by omega) (fun j S9 hj e => ev_op (x := .int here) (y := .int (d j : Int)) (ev_var rfl) (ev_var (by rw [tabN_getD hj]; rfl)) rv_I0)) fun r S' _ hr => ⟨fun v => here - (d v : Int), by rw [iV_tab]; exact hr, by rw [hhere]; exact Half.down hn7 h0 h2 ht5 ok.col hD0 hD hf⟩)) R8.ex (fun sv S9 H9 g9 ⟨g, hsv, hg⟩ => ?_)
      have R9 := R8.grow g9
      have gg9 := gg8.trans g9.any
      have x79 : Ex S' S9 := (g57.s.trans g8.s).trans g9.s
      show tIfS _ _ _ _ [some (.ref r), some v, some (.int ht), some told, some (.int (kind : Int)), some fv, some (.int (i : Int)), some (.int (f : Int)), some (.int here), some away, some sv, none, none, none, none] H9
      refine s_if (b := decide (fv = .non)) (et_test (ev_op (x := fv) (y := .non) (ev_var rfl) ev_c rv_isN)) (fun hb H10 e10 => ?_) (fun hb H10 e10 => ?_)
      · refine s_asg (v := sv) (ev_var rfl) (fun H11 e11 => ?_)
        have gg11 := gg9.trans (Gr.of_ex gg9.i (e10.trans e11))
        exact ⟨S9, sv, _, _, _, _, _, rfl, gg11, x2.trans x79, R9.up (e10.trans e11), fun z => absurd z (by omega), fun _ => ⟨g, hsv, hg⟩⟩
      · have hi0 : 0 < i := by
          rcases Nat.eq_zero_or_pos i with z | z
          · exact absurd (hf0 z) (of_decide_eq_false hb)
          · exact z
        obtain ⟨h, hfv, hh⟩ := hf1 hi0
        have hfv9 := hfv.mono x79
        refine s_asgG (S := S9) (P := fun r S' => ∃ h, LstA S' r (iV (tabI n h)) ∧ Half n es c ht 20 h) ?_ (R9.ex.trans e10) (fun nv S11 H11 g11 ⟨h', hnv, hh'⟩ => ?_)
        · by_cases hk : kind = 0
          · refine EvG.imp (lc_map (n := n) (fun v => V.int (if g v < h v then g v else h v)) (turns_zipLL (ev_var rfl) (ev_var rfl) hfv9 hsv) (fun i _ => set2_wipe _ _ _ _ _) (by omega) (fun j S12 hj e => ev_if (b := decide (V.int (kind : Int) = V.int 0)) (et_test (ev_op (ev_var rfl) ev_c (rv_eq rfl))) (fun _ => ev_cb (ea_cons (x := .int (h j)) (ev_var rfl) (ea_cons (x := .int (g j)) (ev_var rfl) ea_nil)) fun H1 _ Q q => ⟨_, _, rfl, q H1 (Ex.refl H1)⟩) (fun z => by subst hk; exact absurd z (by decide)))) fun r S' _ hr => ⟨fun v => if g v < h v then g v else h v, by rw [iV_tab]; exact hr, hh.min hg⟩
          · refine EvG.imp (lc_map (n := n) (fun v => V.int (if g v > h v then g v else h v)) (turns_zipLL (ev_var rfl) (ev_var rfl) hfv9 hsv) (fun i _ => set2_wipe _ _ _ _ _) (by omega) (fun j S12 hj e => ev_if (b := decide (V.int (kind : Int) = V.int 0)) (et_test (ev_op (ev_var rfl) ev_c (rv_eq rfl))) (fun z => by
              have := of_decide_eq_true z
              injection this with this
              exact absurd (by omega) hk) (fun _ => ev_cb (ea_cons (x := .int (h j)) (ev_var rfl) (ea_cons (x := .int (g j)) (ev_var rfl) ea_nil)) fun H1 _ Q q => ⟨_, _, rfl, q H1 (Ex.refl H1)⟩))) fun r S' _ hr => ⟨fun v => if g v > h v then g v else h v, by rw [iV_tab]; exact hr, hh.max hg⟩
        · have gg11 := (gg9.trans (Gr.of_ex gg9.i e10)).trans g11.any
          exact ⟨S11, nv, _, _, _, _, _, rfl, gg11, (x2.trans x79).trans g11.s, (R9.up e10).grow g11, fun z => absurd z (by omega), fun _ => ⟨h', hnv, hh'⟩⟩
    · rintro σ' H' ⟨S', fv, y1, y2, y3, y4, y5, rfl, gg, x2, R', hf0, hf1⟩
      obtain ⟨h, hfv, hh⟩ := hf1 (by omega)
      have hP := hh.layP hn0 hE ok.col
      have xS : Ex S S' := x02.trans x2
      dsimp only
      show tSeq _ _ _ [some (.ref r), some v, some (.int ht), some told, some (.int (kind : Int)), some fv, y1, y2, y3, y4, y5, none, none, none, none] H'
      refine q_asgG (S := S') (P := fun r S' => LayV S' r n h) (EvG.imp (eg_tupOf (xs := iV (tabI n h)) (EvG.of (v := fv) (ev_var rfl) fun S' e => hfv.mono e)) fun r S' _ hr => hr) R'.ex (fun lv S5 H5 g5 hlv => ?_)
      have R5 := R'.grow g5
      have gg5 := gg.trans g5.any
      have xS5 := xS.trans g5.s
      show tSeq _ _ _ [some (.ref r), some v, some (.int ht), some told, some (.int (kind : Int)), some fv, y1, y2, y3, y4, y5, some lv, none, none, none] H5
      refine x_seq (x_for1 (x_cons ?_))
      refine er_call (K := K) (S := S5) (H := H5) (vs := [.ref r, .int ((5 : Nat) : Int)]) R5 (ea_cons (ev_var rfl) (ea_cons ev_c ea_nil)) (fun H7 e7 R7 => sp_taken_ok R7 (by decide) (by decide)) _ fun v7 S7 H7 g7 R7 ⟨m, ev, hm⟩ => x_nil ?_
      subst ev
      refine rng1_go (m := m) (by omega) (fun i σ' H' => ∃ (S' : Hp) (lv : V) (y1 : Option V) (h : Nat → Int), σ' = [some (.ref r), some v, some (.int ht), some told, some (.int (kind : Int)), some fv, y1, y2, y3, y4, y5, some lv, none, none, none] ∧ Gr [r] S H S' H' ∧ Ex S S' ∧ Row K S' H' r a ns ∧ LayV S' lv n h ∧ LayP n es ht (20 + 2 * (i : Int)) h)
        ⟨S7, lv, y1, h, rfl, gg5.trans g7, xS5.trans g7.s, R7, hlv.mono g7.s, hP.wide (by omega)⟩ ?_ ?_
      · rintro i σ' H' hi ⟨S', lv, y1, h, rfl, gg, xS, R', hlv, hP⟩
        show tAsg _ (gName 11) _ [some (.ref r), some v, some (.int ht), some told, some (.int (kind : Int)), some fv, some (.int (i : Int)), y2, y3, y4, y5, some lv, none, none, none] H'
        refine x_asg (x_call (x_cons (x_var (v := .ref r) rfl (x_cons ?_))))
        refine eg_call (σ := [some (.ref r), some v, some (.int ht), some told, some (.int (kind : Int)), some fv, some (.int (i : Int)), y2, y3, y4, y5, some lv, none, none, none]) (S := S') (ea_cons (ev_var rfl) (ea_cons (ev_var rfl) ea_nil)) (sp_next_ok (hW.mono xS) hedge hn0 hlv) H' R'.ex _ fun nv S8 H8 g8 ⟨ps, hps, p1, p2, p3⟩ => x_nil ?_
        have R8 := R'.grow g8
        refine sp_pick_ok R8 hps p1 (by omega) _ _ fun pv S9 H9 g9 R9 ⟨j, hj⟩ => ?_
        obtain ⟨f, hf, hN⟩ := p3 pv (List.mem_of_getElem? hj)
        have gg9 := (gg.trans g8.any).trans g9
        rcases hN with ⟨hlow, hl⟩ | ⟨hhigh, hl⟩
        · exact ⟨S9, pv, _, _, rfl, gg9, (xS.trans g8.s).trans g9.s, R9, hl.mono g9.s, (hP.raise hne hlow).wide (by omega)⟩
        · exact ⟨S9, pv, _, _, rfl, gg9, (xS.trans g8.s).trans g9.s, R9, hl.mono g9.s, (hP.lower hne hhigh).wide (by omega)⟩
      · rintro σ' H' ⟨S', lv, y1, h, rfl, gg, xS, R', hlv, hP⟩
        show tRet (tVar 11) _ [some (.ref r), some v, some (.int ht), some told, some (.int (kind : Int)), some fv, y1, y2, y3, y4, y5, some lv, none, none, none] H'
        refine s_ret (v := lv) (ev_var rfl) (fun H8 e8 => ?_)
        exact q lv S' H8 (gg.trans (Gr.of_ex gg.i e8)) (R'.up e8) ⟨h, hlv, hP.wide (by omega)⟩
end
end Tr
end
section
set_option Elab.async false
set_option linter.all false
set_option maxRecDepth 100000
set_option maxHeartbeats 4000000
namespace Tr
open PySem PySem.Spec PyProof.Rows L2 Evl
theorem isiTK (K : PySem.W.Frag) {X : Cx} (h : X.K = K := by rfl) : CallR X (.builtin "isinstance") (rIsiT K) := h ▸ call_isiT
section
variable {P : Program} {w : World} {K : PySem.W.Frag} {mg : Str → Option Value} {base : Heap}
def sp_alike : Sp := fun vs H Q _ => ∃ i j : Int, vs = [.int i, .int j] ∧ RetV (.bl (decide (i = j))) H Q
theorem sp_alike_ok {S : Hp} {i j : Int} : SpV sp_alike ([.int i, .int j] ++ []) S (.bl (decide (i = j))) := fun H e Q q _ => ⟨i, j, rfl, q⟩
theorem ok__law_alike (T : Tx K mg) : OkD P w K mg base 1 "_law_alike" ["_law_found", "_law_due"] sp_alike := by
  refine mk__law_alike T (fun vs H Q E h => ?_) (fun f cdv A outer s H vs Q E hr h => ?_)
  · obtain ⟨i, j, rfl, _⟩ := h
    rfl
  · obtain ⟨i, j, rfl, q⟩ := h
    refine ⟨_, (pss_cons (ps_if (pt_val (pe_callB (isiTK K) (by rfl) T.b_isinstance (by decide +kernel) (pa_cons (pv 1) (pa_cons (pe_tup (pa_cons (pe_bltn (v := .ty "tuple") (by rfl) T.b_tuple (by decide +kernel) rfl) (pa_cons (pe_bltn (v := .ty "list") (by rfl) T.b_list (by decide +kernel) rfl) pa_nil))) pa_nil))))
      (pss_cons ps_never
    (pss_cons ps_never
    (pss_one ps_never)))
      pss_nil)
    (pss_cons (ps_if (PW.pt (pw_or (pt_cmpR op_isN1 (pv 1) pe_non (nomark _)) (pw_or1 (pt_val (pe_callB (isiK K) (by rfl) T.b_isinstance (by decide +kernel) (pa_cons (pv 1) (pa_cons (pe_bltn (v := .ty "str") (by rfl) T.b_str (by decide +kernel) rfl) pa_nil)))))))
      (pss_one ps_never)
      pss_nil)
    (pss_one (ps_ret (pe_and (pe_callB (isiK K) (by rfl) T.b_isinstance (by decide +kernel) (pa_cons (pv 0) (pa_cons (pe_bltn (v := .ty "int") (by rfl) T.b_int (by decide +kernel) rfl) pa_nil))) (pe_and (pe_cmpR op_eq (pe_callB (isiK K) (by rfl) T.b_isinstance (by decide +kernel) (pa_cons (pv 0) (pa_cons (pe_bltn (v := .ty "bool") (by rfl) T.b_bool (by decide +kernel) rfl) pa_nil))) (pe_callB (isiK K) (by rfl) T.b_isinstance (by decide +kernel) (pa_cons (pv 1) (pa_cons (pe_bltn (v := .ty "bool") (by rfl) T.b_bool (by decide +kernel) rfl) pa_nil))) (nomark _)) (pe_one (pe_cmpR op_eq (pv 0) (pv 1) (nomark _))))))))), ?_⟩
    refine q_when (b := false) (et_B (fun H1 e1 Q1 q1 => ?_)) (fun hb => nomatch hb) (fun _ H1 e1 => ?_)
    · refine x_cons (x_var (v := .int j) rfl (x_cons ?_))
      refine eu_tup (σ := start N__law_alike [.int i, .int j]) (H := H1) (ea_cons ev_c (ea_cons ev_c ea_nil)) (by show 2 ≤ 100000; decide) H1 (Ex.refl H1) _ fun tp H2 _ e2 h2 => ?_
      exact x_nil ⟨.int j, tp, [.ty "tuple", .ty "list"], _, _, false, rfl, h2, .cons (.ty "tuple") (.cons (.ty "list") .nil), .base (.int j), kitAny_cons (b := false) (kit_ty (by decide +kernel)) (fun _ => kitAny_cons (b := false) (kit_ty (by decide +kernel)) (fun _ => kitAny_nil) (fun z => nomatch z)) (fun z => nomatch z), q1 H2 e2⟩
    refine q_when (b := decide (V.int j = V.non) || false) (et_or (et_test (ev_op (x := .int j) (y := .non) (ev_var rfl) ev_c rv_isN)) (fun _ => et_B (ev_cb (ea_cons (ev_var rfl) (ea_cons ev_c ea_nil)) (rc_isi (fun _ _ => .base (.int _)) (by decide +kernel))))) (fun hb => by simp at hb) (fun _ H2 e2 => ?_)
    have hi : ∀ H3 (z : Int) (k : Nat), (start N__law_alike [.int i, .int j])[k]? = some (some (.int z)) → Ev (tCB (rIsi K) (tCons (tVar k) (tCons (tC (.ty "bool")) tNil))) (start N__law_alike [.int i, .int j]) H3 (.bl false) := fun H3 z k hk => ev_cb (ea_cons (ev_var hk) (ea_cons ev_c ea_nil)) (rc_isi (fun _ _ => .base (.int _)) (by decide +kernel))
    refine s_ret (v := .bl (true && (decide (V.bl false = V.bl false) && decide (V.int i = V.int j)))) (ev_andV (ev_cb (ea_cons (ev_var rfl) (ea_cons ev_c ea_nil)) (rc_isi (fun _ _ => .base (.int _)) (by decide +kernel))) (fun _ => ev_andV (ev_op (hi _ i 0 rfl) (hi _ j 1 rfl) (rv_eq rfl)) (fun _ => ev_op (ev_var rfl) (ev_var rfl) (rv_eq rfl)))) (fun H3 e3 => ?_)
    have e : (true && (decide (V.bl false = V.bl false) && decide (V.int i = V.int j))) = decide (i = j) := by
      rw [decide_eq_true (p := V.bl false = V.bl false) rfl, Bool.true_and, Bool.true_and]
      exact decide_eq_decide.mpr ⟨fun h => by injection h, fun h => by rw [h]⟩
    rw [e]
    exact q H3 ((e1.trans e2).trans e3)
end
end Tr
end
section
set_option Elab.async false
set_option linter.all false
set_option maxRecDepth 100000
set_option maxHeartbeats 4000000
/-! sorted(range(n), key=lambda x: (a[x], x)). -/
namespace Tr
open PySem PySem.Spec PyProof.Rows L2 Evl
section
variable {prog : Program} {w : World} {A : Around} {s : Shared}
abbrev lmP (x : Str) (p : Pos) : Arguments := { posonlyargs := [], args := [{ arg := x, annotation := none, pos := p }], vararg := none, kwonlyargs := [], kw_defaults := [], kwarg := none, defaults := [] }
abbrev lmB (a x : Str) (p1 p2 p3 p4 p5 : Pos) : Expr := .Tuple [.Subscript (.Name a p1) (.Name x p2) p3, .Name x p4] 0 p5
abbrev lmS (a x : Str) : Scope := { kind := .function, names := [(x, .local), (a, .free)], isGenerator := false, isCoroutine := false, more := [] }
/-- the lambda called: the item of the list at al, and the number -/
theorem lam_turn {f c' cell al : Addr} {q a x : Str} {p p1 p2 p3 p4 p5 : Pos} {clos : List (Str × Addr)} {pm ctv : Value} {i d : Int} {t : Tok} {vs : List Value} {ns : List Int} (hax : (a == x) = false)
    (hroom : A.depth < recursionLimit) (hof : s.heap.get? f = some (PySem.W.kla_obj "<lambda>" q (lmP x p) (lmB a x p1 p2 p3 p4 p5) (lmS a x) clos pm c' ctv)) (hcd : s.heap.CodeRec (.ref c') q) (nl : s.heap.NoLimit)
    (hcl : clos.lookup a = some cell) (hcell : s.heap.IsCell cell (some (.ref al))) (hl : s.heap.IsList al vs.toArray) (hi : IntsAre vs ns) (hlay : ns.length ≤ 1000) (h0 : 0 ≤ i) (h1 : i < ns.length) (hd : ns.getD i.toNat 0 = d)
    (hbind : ∀ v, bindArgs (PySem.W.kla_fn "<lambda>" q (lmP x p) (lmB a x p1 p2 p3 p4 p5) (lmS a x) clos pm (.ref c') ctv) ⟨[v], []⟩ = pure [(x, v)])
    (hdx : (x == ("__debug__" : Str)) = false) (hda : (a == ("__debug__" : Str)) = false) (hca : (a == ("__classdict__" : Str)) = false) :
    wpAny (model prog w) A (call (.ref f) [.int i t]) (PySem.W.KeyPure (.tuple [.int d, .int i]) s) (fun _ _ => False) s := by
  refine wpAny_call ?_
  refine PySem.W.kla_callFunE hroom hof rfl rfl rfl rfl hcd ?_
  rw [hbind]
  refine wpAny_pure (wpAny_newFunctionEnv (fun y hy => ?_) (fun y hy => ?_) (fun h₁ hns hsb => ⟨nl.fresh _ hsb, ?_⟩) rfl)
  · rcases List.mem_cons.mp hy with rfl | hy
    · simp
    · rw [List.mem_singleton.mp hy]; simp
  · rw [List.mem_singleton.mp hy]
    show List.lookup x [(x, NameKind.local), (a, NameKind.free)] = some .local
    rw [List.lookup_cons, beq_self_eq_true]
  show codeAny _ _ (.expr (lmB a x p1 p2 p3 p4 p5) (PySem.W.envX q (lmS a x) s.heap.objs.size f (.ref c') clos)) _ _
  have kp : ∀ b o, s.heap.get? b = some o → h₁.get? b = some o := fun b o e => hsb.extBut b o (Nat.ne_of_lt (Heap.lt_size e)) (Heap.get?_push_of_some _ e)
  refine PySem.W.kla_codeExpr ?_
  have ka : (PySem.W.envX q (lmS a x) s.heap.objs.size f (.ref c') clos).kindOf a = some .free := by
    show List.lookup a [(x, NameKind.local), (a, NameKind.free)] = some .free
    rw [List.lookup_cons, hax]
    show List.lookup a [(a, NameKind.free)] = some .free
    rw [List.lookup_cons, beq_self_eq_true]
  have kx : (PySem.W.envX q (lmS a x) s.heap.objs.size f (.ref c') clos).kindOf x = some .local := by
    show List.lookup x [(x, NameKind.local), (a, NameKind.free)] = some .local
    rw [List.lookup_cons, beq_self_eq_true]
  have vx : List.lookup x [(x, Value.int i t)].reverse = some (.int i t) := by
    show List.lookup x [(x, Value.int i t)] = _
    rw [List.lookup_cons, beq_self_eq_true]
  refine wpAny_Tuple_spliced ?_
  show wpAny _ _ (spliced ((false, eval (.Subscript (.Name a p1) (.Name x p2) p3) (PySem.W.envX q (lmS a x) s.heap.objs.size f (.ref c') clos)) :: backTo p5 (starEach [.Name x p4] (PySem.W.envX q (lmS a x) s.heap.objs.size f (.ref c') clos)))) _ _ _
  refine Calls.spliced_cons (Subscript_ (wpAny_Name (wpAny_loadName_free rfl ka hcl (hcell.keeps kp) (wpAny_Name (wpAny_loadName_local rfl kx hns vx ?_) hdx) hca) hda))
  have hl1 : h₁.IsList al vs.toArray := hl.at fun o e => kp _ _ e
  refine item_list_ints (s := { s with heap := h₁, toks := s.toks + 1 }) hl1 hi h0 h1 (by omega) fun t' => ?_
  rw [hd]
  show wpAny _ _ (spliced ((false, eval (.Name x p4) (PySem.W.envX q (lmS a x) s.heap.objs.size f (.ref c') clos)) :: backTo p5 (starEach [] (PySem.W.envX q (lmS a x) s.heap.objs.size f (.ref c') clos)))) _ _ _
  refine Calls.spliced_cons (wpAny_Name (wpAny_loadName_local rfl kx hns vx ?_) hdx)
  refine Calls.spliced_nil ⟨by show 2 ≤ sizeLine; decide, ?_⟩
  refine ⟨_, _, rfl, fun b o e => Heap.get?_push_of_some _ (kp b o e), ?_⟩
  exact .tuple (Heap.get?_push_size _ rfl) rfl rfl (.cons (as := []) (bs := []) (.int _ _) (.cons (as := []) (bs := []) (.int _ _) .nil))
end
section
variable {prog : Program} {w : World} {A : Around} {E : Value → Shared → Prop} {s : Shared}
theorem each_of_items : ∀ (l : List Value) (o : Nat), (∀ j v, l[j]? = some v → ∃ t, v = Value.int ((o + j : Nat) : Int) t) → PySem.W.EachIs (fun v (i : Nat) => ∃ t, v = Value.int (i : Int) t) l ((List.range l.length).map fun j => o + j)
  | [], o, _ => .nil
  | v :: r, o, h => by
    rw [List.length_cons, List.range_succ_eq_map, List.map_cons, List.map_map]
    have h2 := each_of_items r (o + 1) fun j u hj => by
      have := h (j + 1) u hj
      rw [show o + 1 + j = o + (j + 1) by omega]; exact this
    have e : ((List.range r.length).map ((fun j => o + j) ∘ Nat.succ)) = (List.range r.length).map fun j => o + 1 + j := List.map_congr_left fun j _ => by show o + (j + 1) = o + 1 + j; omega
    rw [e]
    exact .cons (h 0 v rfl) h2
theorem sorted_rng {r f : Addr} {n : Nat} {t u v : Tok} {k : Nat → PyData} {Q : Value → Shared → Prop} (hh : A.in1.handled = none) (hr : IsRange s.heap r 0 (n : Int) 1 t u v) (hn : n ≤ 1000) (hal : PySem.W.AllAlike ((List.range n).map k)) (hk : PySem.W.Sortable ((List.range n).map k))
    (hu : ∀ i, A.units + 2 + (k i).depth < cLine)
    (turn : ∀ (i : Nat) (t : Tok), i < n → ∀ (h : Heap) (tk : Nat), (∀ b o, s.heap.get? b = some o → h.get? b = some o) → wpAny (model prog w) A.in1.in1 (call (.ref f) [.int (i : Int) t]) (PySem.W.KeyPure (k i) { s with heap := h, toks := tk }) (fun _ _ => False) { s with heap := h, toks := tk })
    (h : ∀ out c (h1 h' : Heap) tk, (∀ b o, s.heap.get? b = some o → h1.get? b = some o) → (∀ b o, h1.get? b = some o → h'.get? b = some o) → h'.get? h1.objs.size = some (seqObj "list" (List.toArray out) c) → PySem.W.EachIs (fun v (i : Nat) => ∃ t, v = Value.int (i : Int) t) out ((List.range n).mergeSort (PySem.W.dataLe false k)) → Q (.ref h1.objs.size) { s with heap := h', toks := tk }) :
    wpAny (model prog w) A (call (.builtin "sorted") [.ref r] [(Str.ofString "key", .ref f)]) Q E s := by
  refine call_function_entry_kw kind_sorted plain_sorted entry_sorted (ksk_s1 _ _) ?_
  unfold Builtin.«sorted»
  refine wpAny_bind (m := checkCount "sorted" 1 1 _) (wpAny_pure ?_)
  refine wpAny_bind (collect_range (n := n) hh hr (small_one (by omega) (by omega) (by omega) (by omega)) (by have := rangeSize_nat 0 (n : Int); rw [this]; omega) (by omega) fun h1 tk1 acc kp1 hit => ?_)
  have hlen : acc.toList.length = n := by rw [Array.length_toList]; exact hit.1
  refine wpAny_bind (wpAny_newList ?_ (by rw [hlen, sizeLine_eq]; omega))
  have hit2 : ∀ j v, acc.toList[j]? = some v → ∃ t, v = Value.int ((0 + j : Nat) : Int) t := fun j v hj => by
    obtain ⟨t, rfl⟩ := hit.2 j v (by rw [← hj, Array.getElem?_toList])
    exact ⟨t, by congr 1; omega⟩
  have ev := each_of_items acc.toList 0 hit2
  rw [hlen] at ev
  have e0 : (List.range n).map (fun j => 0 + j) = List.range n := by
    conv => rhs; rw [← List.map_id (List.range n)]
    exact List.map_congr_left fun j _ => Nat.zero_add j
  rw [e0] at ev
  refine wpAny_bind (wpAny_holding (PySem.W.list_sort_key_data (A := A.in1) (b := false) k (vs := acc.toList) (n := 0) (Heap.get?_push_size _ rfl) ev hal hk (by rw [List.length_range, sizeLine_eq]; omega) (fun x _ => by have := hu x; show A.units + 1 + 1 + _ < cLine; omega) (ksk_l1 _ _) (ksk_t1 _ _) (fun v x ⟨t, ex⟩ hx h2 tk2 kb => ?_) fun out c h' tk' kb hD hol eo => ?_))
  · subst ex
    exact turn x t (List.mem_range.mp hx) h2 tk2 fun b o e => kb b o (Nat.ne_of_lt (Heap.lt_size (kp1 b o e))) (Heap.get?_push_of_some _ (kp1 b o e))
  · exact wpAny_pure ⟨_, rfl, h out c h1 h' tk' kp1 (fun b o e => kb b o (Nat.ne_of_lt (Heap.lt_size e)) (Heap.get?_push_of_some _ e)) hD eo⟩
end
end Tr
end
section
set_option Elab.async false
set_option linter.all false
set_option maxRecDepth 100000
set_option maxHeartbeats 4000000
/-! sorted(range(n), key=lambda x: (a[x], x)) as a rule of the layer. -/
namespace Tr
open PySem PySem.Spec PyProof.Rows L2 Evl
/-- one table -/
def rLe (d : Nat → Int) (p q : Nat) : Bool := decide (d p < d q ∨ (d p = d q ∧ p ≤ q))
def tSortL (K : PySem.W.Frag) (P : Addr) (q : Str) (ai : Nat) (te : TE) : TE := fun σ H Q => te σ H fun v H1 => ∃ (n : Nat) (al : Addr) (d : Nat → Int), v = .int (n : Int) ∧ n ≤ 1000 ∧ σ[ai]? = some (some (.ref al)) ∧ H1 al = some (.lst (iV (tabI n d))) ∧ LamX.Tabs [(P, q)] H1 ∧
  ∀ H2 p, LamX.ExtN H1 H2 → H2 p = none → Q (.ref p) (upd H2 p (.lst (nV ((List.range n).mergeSort (rLe d)))))
theorem each_ints {vs : List Value} {xs : List Nat} (h : PySem.W.EachIs (fun v (i : Nat) => ∃ t, v = Value.int (i : Int) t) vs xs) : Vals (nV xs) vs := by
  induction h with
  | nil => exact .nil
  | cons r _ ih =>
    obtain ⟨t, rfl⟩ := r
    exact .cons ⟨t, rfl⟩ ih
theorem each_len {vs : List Value} {xs : List Nat} (h : PySem.W.EachIs (fun v (i : Nat) => ∃ t, v = Value.int (i : Int) t) vs xs) : vs.length = xs.length := h.length
section
variable {X : Cx} {k : Nat}
theorem pe_sortLam {c P : Addr} {a x : Str} {ai : Nat} {p p1 p2 p3 p4 p5 pl pr pr2 kp ps pos : Pos} {e : Expr} {te : TE} (hc : X.calm = true) (hr : Room k X.A) (hg : Gl X "sorted") (hm : X.mg "sorted" = none) (hgr : Gl X "range") (hmr : X.mg "range" = none)
    (TB : LamX.TabB X.base X.mg c P) (hcode : X.env.code = .ref c) (he : PE X e te)
    (hN : X.N[ai]? = some a) (hv : X.env.scope.names.lookup a = some .cell) (hax : (a == x) = false)
    (hbind : ∀ (q : Str) (cl : List (Str × Addr)) (pm cv ctv v : Value), bindArgs (PySem.W.kla_fn "<lambda>" q (lmP x p) (lmB a x p1 p2 p3 p4 p5) (lmS a x) cl pm cv ctv) ⟨[v], []⟩ = pure [(x, v)])
    (hdx : (x == ("__debug__" : Str)) = false) (hda : (a == ("__debug__" : Str)) = false) (hca : (a == ("__classdict__" : Str)) = false)
    (na : starEach [e] X.env = (false, eval e X.env) :: starEach [] X.env := by rfl) :
    PE X (.Call (.Name "sorted" ps) [.Call (.Name "range" pr) [e] [] pr2] [⟨some "key", .Lambda (lmP x p) (lmB a x p1 p2 p3 p4 p5) (lmS a x) pl, kp⟩] pos) (tSortL X.K P (X.env.qual ++ "<lambda>") ai te) := by
  refine ⟨fun pins s σ H Q I h => ?_⟩
  refine wpAny_Call_Name_kw (ld_blt I hg hm boot_sorted ?_)
  refine PyProof.Rows.callWith_kw ?_ (by rfl) (by rfl) (by rfl) (by rfl)
  show wpAny _ _ (spliced ((false, eval (.Call (.Name "range" pr) [e] [] pr2) X.env) :: backTo pos (starEach [] X.env))) _ _ s
  refine Calls.spliced_cons (Call_ (ld_blt I hgr hmr boot_range (PyProof.Rows.callWith_type1 (one_arg he I h (fun v s2 y H2 I2 r q => ?_) na) na)))
  obtain ⟨n, al, d, rfl, hn, hσ, hal, hT, q⟩ := q
  obtain ⟨t, rfl⟩ := r
  refine call_range_1 ?_
  generalize hs3 : ({ s2 with heap := s2.heap.push { cls := .type "range", data := .fields #[.int 0 s2.toks, .int (n : Int) t, .int 1 (s2.toks + 1)] }, toks := s2.toks + 1 + 1 } : Shared) = s3
  have I3 : Inv X pins σ H2 s3 := by rw [← hs3]; exact I2.kept fun b u e => Heap.get?_push_of_some _ e
  have hrng : IsRange s3.heap s2.heap.objs.size 0 (n : Int) 1 s2.toks t (s2.toks + 1) := by rw [← hs3]; exact IsRange.new _ _ _ _ _ _ _
  obtain ⟨r, hr0⟩ : ∃ r, r = s2.heap.objs.size := ⟨_, rfl⟩
  have fp : ∀ b ∈ [r], FpOk X pins H2 b := fun b hb => by rw [List.mem_singleton.mp hb, hr0]; exact I2.fpOk (Nat.le_refl _) (I2.hok.fresh (Nat.le_refl _))
  rw [← hr0] at hrng ⊢
  refine Calls.spliced_nil ?_
  have hor : s3.heap.get? r = some { cls := .type "range", data := .fields #[.int 0 s2.toks, .int (n : Int) t, .int 1 (s2.toks + 1)] } := hrng
  have I4 := I3.pinned fp fun b hb => by rw [List.mem_singleton.mp hb]; exact ⟨_, hor, fun v e => by cases e⟩
  show wpAny _ _ (evalAll [do let v ← eval (.Lambda (lmP x p) (lmB a x p1 p2 p3 p4 p5) (lmS a x) pl) X.env; standAt pos; pure v]) _ _ s3
  have hfree : ∀ y ∈ (lmS a x).names, y.2 = .free → ∃ c, X.env.cells.lookup y.1 = some c := fun y hy e => by
    rcases List.mem_cons.mp hy with rfl | hy
    · cases e
    · rw [List.mem_singleton.mp hy]
      exact I.ok.has _ (.inl hv)
  refine wpAny_evalAll_cons (wpAny_bind (LamX.lam_make2 (T := [(P, X.env.qual ++ "<lambda>")]) I4 TB hcode (List.mem_singleton.mpr rfl) (fun p hp _ => by rw [List.mem_singleton.mp hp]) hT rfl hfree fun f c' pm ctv H5 s5 I5 eN T5 hf hfn hfr hco => wpAny_bind (wpAny_standAt (wpAny_pure (wpAny_evalAll_nil ?_)))))
  show wpAny _ _ (call (.builtin "sorted") [.ref r] [(Str.ofString "key", .ref f)]) _ _ _
  have hrng5 : IsRange s5.heap r 0 (n : Int) 1 s2.toks t (s2.toks + 1) := (I5.pin (r, _) (List.mem_append_right _ (List.mem_append_right _ (mem_pinsAt (List.mem_singleton.mpr rfl) hor)))).1
  have hal5 : H5 al = some (.lst (iV (tabI n d))) := eN _ _ hal fun _ => by simp
  obtain ⟨its, rv, hl, hz⟩ := I5.list (sq_of hal5)
  have hi : IntsAre its (tabI n d) := rv.ints
  obtain ⟨m, hn5, hloc⟩ := I5.loc
  obtain ⟨w', hw, hq⟩ := hloc ai a (.ref al) hN hσ (.inr (.inl hv))
  obtain rfl : w' = Value.ref al := hw
  obtain ⟨cell, hcl, hcell⟩ : ∃ cell, X.env.cells.lookup a = some cell ∧ s5.heap.IsCell cell (some (.ref al)) := by
    rcases hq with ⟨k1, _⟩ | ⟨_, c1, e1, z1⟩
    · have k1 : X.env.scope.names.lookup a = some .local := k1
      rw [hv] at k1; cases k1
    · exact ⟨c1, e1, z1⟩
  have hclos : (cloFrom X.env.cells (lmS a x).names []).lookup a = some cell := by
    show (cloFrom X.env.cells [(x, NameKind.local), (a, NameKind.free)] []).lookup a = some cell
    show List.lookup a [(a, (X.env.cells.lookup a).getD 0)] = some cell
    rw [List.lookup_cons, beq_self_eq_true, hcl]; rfl
  obtain ⟨⟨oc, cvs, ct, hoc, hdc, hvc⟩, _, _⟩ := I5.hok c' _ hco
  have dep : X.A.in1.in1.depth < recursionLimit := by
    have := hr.dp
    show X.A.depth < _
    omega
  have hun := hr.un
  refine sorted_rng (k := fun i => .tuple [.int (d i), .int (i : Int)]) (I5.ok.hd hc) hrng5 hn (PySem.W.AllAlike.of fun _ _ => by simp [PySem.W.alike, PySem.W.alikeAll]) (PySem.W.Sortable.tuples fun _ => ⟨_, _, rfl⟩) (fun i => by
      have hd : (PyData.tuple [.int (d i), .int (i : Int)]).depth = 1 := by simp [PyData.depth, PyData.depthAll]
      rw [hd]; omega) (fun i ti hin hh tk kp6 => ?_) fun out cc h1 h' tk kp1 kp2 hD eo => ?_
  · exact lam_turn (s := { s5 with heap := hh, toks := tk }) (vs := its) (ns := tabI n d) (cell := cell) (al := al) hax dep (kp6 _ _ hf) ⟨c', oc, cvs, ct, rfl, kp6 _ _ hoc, hdc, hvc⟩ (I5.nolimit.keeps kp6) hclos (hcell.keeps kp6) (hl.isList.at fun o e => kp6 _ _ e) hi (by rw [tabI_len]; exact hn) (by omega) (by rw [tabI_len]; omega)
      (by rw [show ((i : Int)).toNat = i by omega, List.getD_eq_getElem?_getD, tabI_get hin]; rfl) (fun v => hbind _ _ _ _ _ v) hdx hda hca
  · rw [PySem.W.dataLe_ii (β := Nat) (fun i => d i) (fun i => (i : Int))] at eo
    have eo' : PySem.W.EachIs (fun v (i : Nat) => ∃ t, v = Value.int (i : Int) t) out ((List.range n).mergeSort (rLe d)) := by
      have e : (fun p q : Nat => decide (d p < d q ∨ (d p = d q ∧ (p : Int) ≤ (q : Int)))) = rLe d := by
        funext p q
        unfold rLe
        exact decide_eq_decide.mpr (by omega)
      rw [← e]; exact eo
    have I6 : Inv X pins σ H5 { s5 with heap := h1 } := (I5.kept (t' := s5.toks) kp1).unpinned
    have hlen : ((List.range n).mergeSort (rLe d)).length = n := by rw [List.length_mergeSort, List.length_range]
    have new : ObjOk X.prog X.w (upd H5 h1.objs.size (.lst (nV ((List.range n).mergeSort (rLe d))))) h' h1.objs.size (.lst (nV ((List.range n).mergeSort (rLe d)))) := ⟨by rw [nV_len, hlen, sizeLine_eq]; omega, out, cc, each_ints eo', hD⟩
    have I7 : Inv X pins σ (upd H5 h1.objs.size (.lst (nV ((List.range n).mergeSort (rLe d))))) { s5 with heap := h', toks := tk } := I6.laid (t' := tk) kp2 (Nat.le_refl _) new
    exact ⟨.ref h1.objs.size, _, I7, rfl, q H5 h1.objs.size eN (I6.hok.fresh (Nat.le_refl _))⟩
end
end Tr
end
section
set_option linter.all false
/-! all layings, one field after another. Plain Lean. -/
namespace Tr
structure EnumI (es : List (Nat × Nat)) (seen : List Nat) (gs : List (Nat → Int)) : Prop where
  zero : ∀ g ∈ gs, g 0 = 0
  ok : ∀ g ∈ gs, ∀ u ∈ seen, ∀ v ∈ seen, Adj es u v → absI (g u - g v) = 1
  all : ∀ h : Nat → Int, Lay es h → h 0 = 0 → ∃ g ∈ gs, ∀ z ∈ seen, g z = h z
  dis : gs.Pairwise fun g g' => ∃ z ∈ seen, g z ≠ g' z
  len : gs.length ≤ 2 ^ seen.length
/-- the values that fit -/
def fit (sm : List Nat) (g : Nat → Int) (x : Int) : Bool := sm.all fun u => decide (absI (g u - x) = 1)
def kids (sm : List Nat) (s0 here : Nat) (g : Nat → Int) : List (Nat → Int) := ([g s0 - 1, g s0 + 1].filter (fit sm g)).map fun x => updF g here x
theorem absI_neg {x : Int} : absI (-x) = absI x := by unfold absI; split <;> split <;> omega
theorem absI_sub {a b : Int} : absI (a - b) = absI (b - a) := by rw [← absI_neg]; congr 1; omega
theorem EnumI.start {es : List (Nat × Nat)} (hne : ∀ e ∈ es, e.1 ≠ e.2) : EnumI es [0] [fun _ => 0] where
  zero := fun g hg => by rw [List.mem_singleton.mp hg]
  ok := fun g _ u hu v hv ha => by
    rw [List.mem_singleton] at hu hv
    subst hu hv
    rcases ha with q | q <;> exact absurd rfl (hne _ q)
  all := fun h _ h0 => ⟨_, List.mem_singleton.mpr rfl, fun z hz => by rw [List.mem_singleton.mp hz]; exact h0.symm⟩
  dis := List.pairwise_singleton _ _
  len := by simp
theorem EnumI.step {es : List (Nat × Nat)} {seen sm : List Nat} {gs : List (Nat → Int)} {here s0 : Nat} (I : EnumI es seen gs) (hne : ∀ e ∈ es, e.1 ≠ e.2) (h0 : 0 ∈ seen) (hh : here ∉ seen) (hs : ∀ u, u ∈ sm ↔ Adj es here u ∧ u ∈ seen) (h1 : s0 ∈ sm) :
    EnumI es (seen ++ [here]) (gs.flatMap (kids sm s0 here)) := by
  have ne : ∀ z ∈ seen, z ≠ here := fun z hz e => hh (e ▸ hz)
  have kid : ∀ k ∈ gs.flatMap (kids sm s0 here), ∃ g ∈ gs, ∃ x, (x = g s0 - 1 ∨ x = g s0 + 1) ∧ (∀ u ∈ sm, absI (g u - x) = 1) ∧ k = updF g here x := fun k hk => by
    obtain ⟨g, hg, hk⟩ := List.mem_flatMap.mp hk
    obtain ⟨x, hx, rfl⟩ := List.mem_map.mp hk
    obtain ⟨hx1, hx2⟩ := List.mem_filter.mp hx
    refine ⟨g, hg, x, by simpa using hx1, fun u hu => ?_, rfl⟩
    exact of_decide_eq_true (List.all_eq_true.mp hx2 u hu)
  refine ⟨fun k hk => ?_, fun k hk u hu v hv ha => ?_, fun h hl hz => ?_, ?_, ?_⟩
  · obtain ⟨g, hg, x, _, _, rfl⟩ := kid k hk
    rw [updF_ne (ne 0 h0)]; exact I.zero g hg
  · obtain ⟨g, hg, x, hx, hfit, rfl⟩ := kid k hk
    rw [List.mem_append, List.mem_singleton] at hu hv
    have huv : u ≠ v := by
      rcases ha with q | q
      · exact hne _ q
      · exact (hne _ q).symm
    rcases hu with hu | rfl
    · rw [updF_ne (ne u hu)]
      rcases hv with hv | rfl
      · rw [updF_ne (ne v hv)]; exact I.ok g hg u hu v hv ha
      · rw [updF_same]; exact hfit u ((hs u).mpr ⟨ha.symm, hu⟩)
    · rw [updF_same]
      rcases hv with hv | rfl
      · rw [updF_ne (ne v hv), absI_sub]; exact hfit v ((hs v).mpr ⟨ha, hv⟩)
      · exact absurd rfl huv
  · obtain ⟨g, hg, hgz⟩ := I.all h hl hz
    have hsm : ∀ u ∈ sm, absI (g u - h here) = 1 := fun u hu => by
      obtain ⟨ha, hu2⟩ := (hs u).mp hu
      rw [hgz u hu2]
      have := hl.adj ha
      exact absI_iff.mpr (by omega)
    refine ⟨updF g here (h here), List.mem_flatMap.mpr ⟨g, hg, List.mem_map.mpr ⟨h here, List.mem_filter.mpr ⟨?_, List.all_eq_true.mpr fun u hu => decide_eq_true (hsm u hu)⟩, rfl⟩⟩, fun z hz => ?_⟩
    · have := absI_iff.mp (hsm s0 h1)
      have : h here = g s0 - 1 ∨ h here = g s0 + 1 := by omega
      simpa using this
    · rw [List.mem_append, List.mem_singleton] at hz
      rcases hz with hz | rfl
      · rw [updF_ne (ne z hz)]; exact hgz z hz
      · rw [updF_same]
  · rw [List.pairwise_flatMap]
    refine ⟨fun g hg => ?_, I.dis.imp fun {g g'} ⟨z, hz, hd⟩ x hx y hy => ?_⟩
    · unfold kids
      rw [List.pairwise_map]
      refine List.Pairwise.imp (R := fun a b : Int => a ≠ b) (fun {a b} hab => ⟨here, by simp, by rw [updF_same, updF_same]; exact hab⟩) (List.Pairwise.filter _ ?_)
      rw [List.pairwise_cons]
      exact ⟨fun b hb => by rw [List.mem_singleton.mp hb]; omega, List.pairwise_singleton _ _⟩
    · unfold kids at hx hy
      obtain ⟨a, _, rfl⟩ := List.mem_map.mp hx
      obtain ⟨b, _, rfl⟩ := List.mem_map.mp hy
      exact ⟨z, List.mem_append_left _ hz, by rw [updF_ne (ne z hz), updF_ne (ne z hz)]; exact hd⟩
  · have hk : ∀ g, (kids sm s0 here g).length ≤ 2 := fun g => by
      unfold kids
      rw [List.length_map]
      exact List.length_filter_le _ _
    have : ∀ l : List (Nat → Int), (l.flatMap (kids sm s0 here)).length ≤ 2 * l.length := fun l => by
      induction l with
      | nil => simp
      | cons g r ih =>
        rw [List.flatMap_cons, List.length_append, List.length_cons]
        have := hk g
        omega
    have h2 := this gs
    have h3 := I.len
    rw [List.length_append, List.length_singleton, Nat.pow_succ]
    omega
/-- the list of all layings with height 0 at the field 0 -/
structure AllL (n : Nat) (es : List (Nat × Nat)) (gs : List (Nat → Int)) : Prop where
  ok : ∀ g ∈ gs, Lay es g ∧ g 0 = 0
  all : ∀ h : Nat → Int, Lay es h → h 0 = 0 → ∃ g ∈ gs, ∀ z, z < n → g z = h z
  dis : gs.Pairwise fun g g' => ∃ z, z < n ∧ g z ≠ g' z
theorem EnumI.fin {n : Nat} {es : List (Nat × Nat)} {seen : List Nat} {gs : List (Nat → Int)} (I : EnumI es seen gs) (hp : seen.Perm (List.range n)) (hE : ∀ e ∈ es, e.1 < n ∧ e.2 < n) : AllL n es gs where
  ok := fun g hg => ⟨fun e he => I.ok g hg e.1 (hp.mem_iff.mpr (List.mem_range.mpr (hE e he).1)) e.2 (hp.mem_iff.mpr (List.mem_range.mpr (hE e he).2)) (.inl he), I.zero g hg⟩
  all := fun h hl h0 => by
    obtain ⟨g, hg, hz⟩ := I.all h hl h0
    exact ⟨g, hg, fun z hz2 => hz z (hp.mem_iff.mpr (List.mem_range.mpr hz2))⟩
  dis := I.dis.imp fun ⟨z, hz, hd⟩ => ⟨z, List.mem_range.mp (hp.mem_iff.mp hz), hd⟩
/-! ### the order -/
def rLeN (d : Nat → Nat) (p q : Nat) : Bool := decide (d p < d q ∨ (d p = d q ∧ p ≤ q))
theorem order_of {n : Nat} {es : List (Nat × Nat)} {d : Nat → Nat} (hn : 0 < n) (D : DistL es n 0 d) : ∃ rest, (List.range n).mergeSort (rLeN d) = 0 :: rest ∧ (0 :: rest).Perm (List.range n) ∧ (0 :: rest).Nodup ∧
    ∀ i here, rest[i]? = some here → ∃ s, s ∈ (0 :: rest).take (i + 1) ∧ Adj es here s := by
  have hp := List.mergeSort_perm (List.range n) (rLeN d)
  have hs : ((List.range n).mergeSort (rLeN d)).Pairwise fun a b => rLeN d a b = true := List.pairwise_mergeSort (le := rLeN d) (fun a b c h1 h2 => by
      unfold rLeN at *
      have a1 := of_decide_eq_true h1
      have a2 := of_decide_eq_true h2
      exact decide_eq_true (by omega)) (fun a b => by
      unfold rLeN
      rw [Bool.or_eq_true, decide_eq_true_eq, decide_eq_true_eq]
      omega) _
  generalize (List.range n).mergeSort (rLeN d) = L at hp hs
  have hnd : L.Nodup := hp.symm.nodup List.nodup_range
  have h0 : 0 ∈ L := hp.mem_iff.mpr (List.mem_range.mpr hn)
  cases L with
  | nil => cases h0
  | cons a rest =>
    have ha : a = 0 := by
      rcases List.mem_cons.mp h0 with h | h
      · exact h.symm
      · have h1 := of_decide_eq_true ((List.pairwise_cons.mp hs).1 0 h)
        by_cases e : a = 0
        · exact e
        · have hlt : a < n := List.mem_range.mp (hp.mem_iff.mp (List.mem_cons_self ..))
          obtain ⟨u, _, _, h2⟩ := D.w.up a hlt e
          have h3 := D.w.zero
          omega
    subst ha
    refine ⟨rest, rfl, hp, hnd, fun i here hi => ?_⟩
    have hne : here ≠ 0 := fun e => (List.nodup_cons.mp hnd).1 (e ▸ List.mem_of_getElem? hi)
    have hlt : here < n := List.mem_range.mp (hp.mem_iff.mp (List.mem_cons_of_mem _ (List.mem_of_getElem? hi)))
    obtain ⟨u, hu, hadj, hd⟩ := D.w.up here hlt hne
    refine ⟨u, ?_, hadj.symm⟩
    have hum : u ∈ 0 :: rest := hp.mem_iff.mpr (List.mem_range.mpr hu)
    obtain ⟨j, hj, ej⟩ := List.mem_iff_getElem.mp hum
    have hi2 : (0 :: rest)[i + 1]? = some here := hi
    obtain ⟨hil, ei⟩ := List.getElem?_eq_some_iff.mp hi2
    have hji : j ≤ i := by
      rcases Nat.lt_or_ge i j with q | q
      · exfalso
        by_cases e : j = i + 1
        · subst e
          rw [ei] at ej
          rw [ej] at hd; omega
        · have := List.pairwise_iff_getElem.mp hs (i + 1) j hil hj (by omega)
          rw [ei, ej] at this
          have := of_decide_eq_true this
          omega
      · exact q
    rw [List.mem_take_iff_getElem]
    exact ⟨j, by omega, ej⟩
end Tr
end
section
set_option Elab.async false
set_option linter.all false
set_option maxRecDepth 100000
set_option maxHeartbeats 4000000
namespace Tr
open PySem PySem.Spec PyProof.Rows L2 Evl
/-- the rule of a def whose code object must be named -/
theorem okD_ofC {P : Program} {w : World} {K : PySem.W.Frag} {mg : Str → Option Value} {base : Heap} {k : Nat} {x : Str} {st : Stmt} {N ps : List Str} {sp : Sp} (T : Tx K mg) (hm : dD x st ∈ fnL) (hg : He.Fa.glo x ∈ faL) (S : FnScope N ps (defScope st))
    (len : ∀ vs H Q E, sp vs H Q E → vs.length = ps.length)
    (hb : ∀ (kV doc pm : Value) (an : Option Addr) (cdv ct : Value) (us : List Value), us.length = ps.length → bindArgs (PySem.W.fnOf x x (defArgs st) (defBody st) (defScope st) .none kV doc pm an cdv ct) ⟨us, []⟩ = pure (ps.zip us))
    (hbody : ∀ (f : Addr) (cdv : Value) (A : Around) (outer : List Env) (s : Shared) (H : Hp) (vs : List V) (Q : VK) (E : XK), cdv = .ref (He.cT K (x, none)).1 → Room k (A.deeper (envOfC x (defScope st) s.heap.objs.size f cdv)) → sp vs H Q E →
      ∃ t, PSs (cxOf CX0 P w K mg base N x (defScope st) f cdv A outer s H E).nox (defBody st) t ∧ t { nx := fun _ H' => Q .non H', rt := Q } (start N vs) H) : OkD P w K mg base (k + 1) x ps sp := by
  obtain ⟨fd, F⟩ := T.fns.defs hm
  have F : FunD K x x (defArgs st) (defBody st) (defScope st) [] [] (He.ga K x) fd := F
  refine ⟨fd, ?_, F.bindsN hb, F.kp, T.glo x hg⟩
  obtain ⟨oc, od, dV, kV, doc, pm, an, cdv, ct, osl, rfl, lk, hcd, _, _⟩ := F.ex
  refine fn_of lk hcd S len fun A outer s H vs Q E hr hsp => ?_
  obtain ⟨c, rfl⟩ := He.codeIn_ref hcd
  have hc : He.codeOf K (x, none) = c := He.codeOf_eq (p := (x, none)) lk rfl
  obtain ⟨t, h1, h2⟩ := hbody (He.ga K x) (.ref c) A outer s H vs Q E (by show Value.ref c = .ref (He.codeOf K (x, none)); rw [hc]) hr hsp
  exact ⟨t, h1.nox, h2⟩
/-- all but the tables -/
def noT (S : Hp) : Hp := fun b => match S b with
  | some (.tbl _) => none
  | o => o
theorem noT_of {S : Hp} {b : Addr} {o : HO} (h : S b = some o) (hn : ∀ ps, o ≠ .tbl ps) : noT S b = some o := by
  unfold noT
  rw [h]
  cases o <;> first | rfl | exact absurd rfl (hn _)
theorem noT_to {S : Hp} {b : Addr} {o : HO} (h : noT S b = some o) : S b = some o ∧ ∀ ps, o ≠ .tbl ps := by
  unfold noT at h
  cases q : S b with
  | none => rw [q] at h; cases h
  | some u =>
    rw [q] at h
    cases u <;> first | (cases h; done) | (injection h with h; subst h; exact ⟨rfl, fun ps z => by cases z⟩)
theorem TupA.noT {S : Hp} {v : V} {xs : List V} (h : TupA S v xs) : TupA (noT S) v xs := let ⟨a, h1, h2⟩ := h; ⟨a, h1, noT_of h2 fun _ z => by cases z⟩
theorem LstA.noT {S : Hp} {v : V} {xs : List V} (h : LstA S v xs) : LstA (noT S) v xs := let ⟨a, h1, h2⟩ := h; ⟨a, h1, noT_of h2 fun _ z => by cases z⟩
/-- a dict of heights of the fields seen -/
def DictG (S : Hp) (v : V) (seen : List Nat) (g : Nat → Int) : Prop := ∃ a kvs, v = .ref a ∧ S a = some (.dK kvs) ∧ (∀ z, valV kvs (kN z) = if z ∈ seen then some (.int (g z)) else none) ∧ kvs.length ≤ seen.length
theorem DictG.mono {S S' : Hp} {v : V} {seen : List Nat} {g : Nat → Int} (e : Ex S S') (h : DictG S v seen g) : DictG S' v seen g := let ⟨a, k, h1, h2, h3⟩ := h; ⟨a, k, h1, e _ _ h2, h3⟩
theorem DictG.noT {S : Hp} {v : V} {seen : List Nat} {g : Nat → Int} (h : DictG S v seen g) : DictG (noT S) v seen g := let ⟨a, k, h1, h2, h3⟩ := h; ⟨a, k, h1, noT_of h2 (fun _ z => by cases z), h3⟩
theorem DictG.get {S : Hp} {v : V} {seen : List Nat} {g : Nat → Int} {σ : L2.St} {td ty : TE} {z : Nat} (h : DictG S v seen g) (hz : z ∈ seen) (hd : Ev td σ S v) (hy : Ev ty σ S (.int (z : Int))) : Ev (tDGet td ty) σ S (.int (g z)) := by
  obtain ⟨a, kvs, rfl, ha, hv, _⟩ := h
  exact ev_dgetK (k := kN z) hd hy ha (by rw [hv z, if_pos hz])
theorem DictG.has {S : Hp} {v : V} {seen : List Nat} {g : Nat → Int} {σ : L2.St} {td ty : TE} {z : Nat} (h : DictG S v seen g) (hd : Ev td σ S v) (hy : Ev ty σ S (.int (z : Int))) : EvT (tB (tDIn ty td)) σ S (decide (z ∈ seen)) := by
  obtain ⟨a, kvs, rfl, ha, hv, _⟩ := h
  refine et_is (et_din (k := kN z) hy hd ha) ?_
  rw [hv z]
  by_cases q : z ∈ seen
  · rw [if_pos q, decide_eq_true q]; rfl
  · rw [if_neg q, decide_eq_false q]; rfl
section
variable {P : Program} {w : World} {K : PySem.W.Frag} {mg : Str → Option Value} {base : Heap}
def sp_lall (K : PySem.W.Frag) : Sp := fun vs H Q _ => ∃ (S : Hp) (v : V) (n : Nat) (es : List (Nat × Nat)) (c : Nat → Nat), vs = [v, .int (0 : Int), .int (0 : Int)] ∧ Ex S H ∧ H (He.cT K ("_law_all", none)).2 = some (.tbl #[]) ∧ WebV S v n es ∧ WebOk n es c ∧ n ≤ 7 ∧
  ∀ (gs : List (Nat → Int)) (l : Addr) (ps : List V) (H1 : Hp), AllL n es gs → ps.length = gs.length → H1 l = some (.lst ps) → Q (.ref l) H1
theorem ok__law_all (T : Tx K mg) (TB : LamX.TabB base mg (He.cT K ("_law_all", none)).1 (He.cT K ("_law_all", none)).2) : OkD P w K mg base 3 "_law_all" ["_law_web_here", "_law_field", "_law_height"] (sp_lall K) := by
  refine okD_ofC T (List.mem_of_getElem? (i := 44) rfl) (List.mem_of_getElem? (i := 62) rfl) sc__law_all (fun vs H Q E h => ?_) (fun _ _ _ _ _ _ us hl => match us, hl with | [_, _, _], _ => rfl) (fun f cdv A outer s H vs Q E hcode hr h => ?_)
  · obtain ⟨S, v, n, es, c, rfl, _⟩ := h
    rfl
  · obtain ⟨S, v, n, es, c, rfl, eH, hPt, hW, ok, hn7, q⟩ := h
    refine ⟨_, (pss_cons (ps_par3 (i := 3) (j := 4) (l := 5) rfl sc__law_all.nd rfl rfl rfl (by decide) (by decide) (by decide) rfl rfl rfl (pa_cons (pcall (ok__law_nears T) (hr.mono (by decide)) (pa_cons (pv 0) pa_nil)) (pa_cons (pe_lst (pa_cons (pv 1) pa_nil)) (pa_cons (pe_lst (pa_cons (pe_disp (pps_cons (pv 1) (pv 2) pps_nil) (by rfl) (by rfl) (by simp) (by decide)) pa_nil)) pa_nil))) (by rfl))
    (pss_cons (ps_set (i := 12) sc__law_all.nd rfl (.inr rfl) (pcall (ok__law_far T) (hr.mono (by decide)) (pa_cons (pv 0) (pa_cons (pv 1) pa_nil))))
    (pss_cons (ps_set (i := 4) sc__law_all.nd rfl (.inl rfl) (pe_sortLam (ai := 12) rfl hr (by rfl) T.b_sorted (by rfl) T.b_range TB (by exact hcode) (pe_ix (ixTK K) (pv 0) pe_int (fun _ _ => rfl)) rfl rfl (by decide +kernel) (fun _ _ _ _ _ _ => by kernel_rfl) (by decide +kernel) (by decide +kernel) (by decide +kernel)))
    (pss_cons (ps_for PassesOwn.never rfl (piLK K (pe_slice sl_list (pv 4) (po_some pe_int) po_none)) (pg_name (i := 6) sc__law_all.nd rfl (Or.inl rfl))
      (pss_cons (ps_set (i := 7) sc__law_all.nd rfl (.inl rfl) (pe_lst pa_nil))
    (pss_cons (ps_for PassesOwn.never rfl (piLK K (pv 5)) (pg_name (i := 8) sc__law_all.nd rfl (Or.inr rfl))
      (pss_cons (ps_setLc (i := 9) (own := [("_law_near", 13)]) (g := (gName 13)) rfl sc__law_all.nd rfl rfl (sw_true rfl rfl rfl (by decide +kernel)) (piLK K (pe_ix (ixLK K) (pv 3) (pv 6) (fun _ _ => rfl))) (blkOk_by (own := [("_law_near", 13)]) (N := N__law_all) (sc := defScope s__law_all) (by decide +kernel)) (fun _ _ _ _ _ => (pg_name (i := 13) sc__law_all.nd rfl (by first | exact Or.inl rfl | exact Or.inr rfl))) (fun _ _ _ _ _ => (pts_one (pt_cmp (pc_din (hu_of hr) (pv 13) (pv 8))))) (fun _ _ _ _ _ => (pv 13)))
    (pss_one (ps_for PassesOwn.never rfl (piLK K (pe_lst (pa_cons (pe_op op_sub (pe_dget (hu_of hr) (pv 8) (pe_ix (ixLK K) (pv 9) pe_int (fun _ _ => rfl)) (fun _ _ => rfl)) pe_int) (pa_cons (pe_op op_add (pe_dget (hu_of hr) (pv 8) (pe_ix (ixLK K) (pv 9) pe_int (fun _ _ => rfl)) (fun _ _ => rfl)) pe_int) pa_nil)))) (pg_name (i := 10) sc__law_all.nd rfl (Or.inr rfl))
      (pss_one (ps_if (pt_cmpR (eqDK K hr.units) (pe_lc (own := [("_law_near", 13)]) (g := (gName 13)) rfl sc__law_all.nd (piLK K (pv 9)) (blkOk_by (own := [("_law_near", 13)]) (N := N__law_all) (sc := defScope s__law_all) (by decide +kernel)) (fun _ _ _ _ _ => (pg_name (i := 13) sc__law_all.nd rfl (by first | exact Or.inl rfl | exact Or.inr rfl))) (fun _ _ _ _ _ => (pts_one (pt_cmpR op_ne (pe_callB call_abs (by rfl) T.b_abs (by decide +kernel) (pa_cons (pe_op op_sub (pe_dget (hu_of hr) (pv 8) (pv 13) (fun _ _ => rfl)) (pv 10)) pa_nil)) pe_int (nomark _)))) (fun _ _ _ _ _ => (pv 13))) (pe_lst pa_nil) (nomark _))
      (pss_cons (ps_set (i := 11) sc__law_all.nd rfl (.inl rfl) (pe_callTy call_dictD (by rfl) T.b_dict (by decide +kernel) (pa_cons (pv 8) pa_nil)))
    (pss_cons (ps_dput (hu_of hr) (pv 11) (pv 6) (pv 10) rfl)
    (pss_one (ps_expr (pe_bm PySem.F.plainAttrs_list PySem.F.slot_list_append PySem.F.type_list_append mt_append (pv 7) (pa_cons (pv 11) pa_nil))))))
      pss_nil))))))
    (pss_one (ps_set (i := 5) sc__law_all.nd rfl (.inl rfl) (pv 7))))))
    (pss_one (ps_ret (pe_callB (sortedTUK K) (by rfl) T.b_sorted (by decide +kernel) (pa_cons (pe_lc (own := [("_law_told", 8)]) (g := (gName 8)) rfl sc__law_all.nd (piLK K (pv 5)) (blkOk_by (own := [("_law_told", 8)]) (N := N__law_all) (sc := defScope s__law_all) (by decide +kernel)) (fun _ _ _ _ _ => (pg_name (i := 8) sc__law_all.nd rfl (by first | exact Or.inl rfl | exact Or.inr rfl))) (fun _ _ _ _ _ => pts_nil) (fun _ _ _ _ _ => (pe_callTy (tupOfK K) (by rfl) T.b_tuple (by decide +kernel) (pa_cons (pe_lc (own := [("_law_one", 14)]) (g := (gName 14)) rfl sc__law_all.nd (pi_range1 (by rfl) T.b_range (pa_cons (pe_ix (ixTK K) (pv 0) pe_int (fun _ _ => rfl)) pa_nil)) (blkOk_by (own := [("_law_one", 14)]) (N := N__law_all) (sc := _) (by rfl)) (fun _ _ _ _ _ => (pg_name (i := 14) sc__law_all.nd rfl (by first | exact Or.inl rfl | exact Or.inr rfl))) (fun _ _ _ _ _ => pts_nil) (fun _ _ _ _ _ => (pe_dget (hu_of hr) (pv 8) (pv 14) (fun _ _ => rfl)))) pa_nil)))) pa_nil)))))))), ?_⟩
    obtain ⟨b, hT, hB⟩ := id hW
    have hn0 := ok.form.lo
    have hedge := ok.form.edges
    have hE : ∀ e ∈ es, e.1 < n ∧ e.2 < n := fun e he => by have := ok.form.ok e he; omega
    have hne : ∀ e ∈ es, e.1 ≠ e.2 := fun e he => by have := ok.form.ok e he; omega
    refine eg_call (ea_cons (ev_var rfl) ea_nil) (sp_nears_ok hW hedge) H eH _ fun nr S1 H1 g1 hN => ?_
    refine ⟨.int 0, rfl, by show 1 ≤ sizeLine; decide, fun oa hoa => ?_⟩
    have g2 : Gr [] S H S1 (upd H1 oa (.lst [.int 0])) := g1.trans (Gr.lay g1.i hoa)
    generalize upd H1 oa (.lst [.int 0]) = H2 at g2 ⊢
    intro da hda
    have hHd : H da = none := g2.fr eH hda
    have hSd : S1 da = none := g2.frS hda
    have g3 : Gr [] S H S1 (upd H2 da (.dK [])) := g2.trans (Gr.lay g2.i hda)
    refine ⟨.int 0, rfl, .int 0, rfl, upd_same, [(kN 0, .int 0)], rfl, (by show 1 ≤ 15; decide), by show 1 ≤ sizeLine; decide, fun fa hfa => ?_⟩
    have hkv : mergeK [] [(kN 0, V.int 0)] = [(kN 0, V.int 0)] := rfl
    rw [hkv] at hfa ⊢
    have g4 := g3.put (p := da) (u := .dK [(kN 0, .int 0)]) (.inl hHd) hSd
    have h4d : upd (upd H2 da (.dK [])) da (.dK [(kN 0, V.int 0)]) da = some (.dK [(kN 0, .int 0)]) := upd_same
    generalize upd (upd H2 da (.dK [])) da (.dK [(kN 0, V.int 0)]) = H4 at g4 h4d hfa ⊢
    have g5 := (g4.fix hHd h4d)
    have g6 : Gr [] S H (upd (upd S1 da (.dK [(kN 0, .int 0)])) fa (.lst [.ref da])) (upd H4 fa (.lst [.ref da])) := g5.trans (Gr.new g5.i hfa)
    have hfS : (upd S1 da (.dK [(kN 0, V.int 0)])) fa = none := fresh_back g5.i hfa
    have hfd : da ≠ fa := fun e => by rw [e, upd_same] at hfS; cases hfS
    have hDG : DictG (upd (upd S1 da (.dK [(kN 0, .int 0)])) fa (.lst [.ref da])) (.ref da) [0] fun _ => 0 := ⟨da, _, rfl, by rw [upd_ne hfd]; exact upd_same, fun z => by
      by_cases e : z = 0
      · subst e; rw [if_pos (List.mem_singleton.mpr rfl)]; rfl
      · rw [if_neg (fun h => e (List.mem_singleton.mp h)), valV_neg (fun h => e (kN_inj.mp h).symm)]; rfl, Nat.le_refl _⟩
    have hFL : LstA (upd (upd S1 da (.dK [(kN 0, .int 0)])) fa (.lst [.ref da])) (.ref fa) [.ref da] := ⟨fa, rfl, upd_same⟩
    have x16 : Ex S1 (upd (upd S1 da (.dK [(kN 0, .int 0)])) fa (.lst [.ref da])) := (Ex.new hSd).trans (Ex.new hfS)
    generalize upd (upd S1 da (.dK [(kN 0, V.int 0)])) fa (.lst [.ref da]) = S6 at g6 hDG hFL x16
    generalize upd H4 fa (.lst [.ref da]) = H6 at g6 ⊢
    refine ⟨nr, .ref oa, .ref fa, rfl, ?_⟩
    show tSeq _ _ _ [some v, some (.int 0), some (.int 0), some nr, some (.ref oa), some (.ref fa), none, none, none, none, none, none, none, none, none] H6
    refine q_asgG (S := S6) (eg_call (ea_cons (ev_var rfl) (ea_cons (ev_var rfl) ea_nil)) (sp_far_ok (first := 0) (hW.mono g6.s) hedge ok.conn hn0)) g6.i (fun away S7 H7 g7 ⟨d, hd, hD⟩ => ?_)
    have g67 := g6.trans g7
    obtain ⟨al, rfl, hal⟩ := id hd
    show tSeq _ _ _ [some v, some (.int 0), some (.int 0), some nr, some (.ref oa), some (.ref fa), none, none, none, none, none, none, some (.ref al), none, none] H7
    refine x_seq (x_asg ?_)
    refine x_ev (te := tOp (rIxT K) (tVar 0) (tC (.int 0))) (v := .int (n : Int)) (ev_ixT (j := 0) (ev_var rfl) ev_c ((hT.mono g67.s).mono g67.i) rfl) fun H8 e8 => ?_
    refine ⟨n, al, fun i => (d i : Int), rfl, by omega, rfl, ?_, fun p hp => ?_, fun H9 oa2 eN hoa2 => ?_⟩
    · have : iV (tabI n fun i => (d i : Int)) = nV (tabN n d) := by
        unfold iV tabI nV tabN
        rw [List.map_map, List.map_map]; rfl
      rw [this]; exact e8 _ _ (g67.i _ _ hal)
    · rw [List.mem_singleton.mp hp]
      exact LamX.TabS.nil (e8 _ _ (g67.ex _ _ hPt))
    obtain ⟨rest, hrest, hperm, hnd, hpar⟩ := order_of hn0 hD
    have hord : (List.range n).mergeSort (rLe fun i => (d i : Int)) = 0 :: rest := by
      have e : (rLe fun i => (d i : Int)) = rLeN d := by
        funext p q
        unfold rLe rLeN
        exact decide_eq_decide.mpr (by
          show ((d p : Int) < (d q : Int) ∨ ((d p : Int) = (d q : Int) ∧ p ≤ q)) ↔ _
          omega)
      rw [e]; exact hrest
    rw [hord]
    have hrl : rest.length + 1 = n := by
      have := hperm.length_eq
      rw [List.length_cons, List.length_range] at this
      exact this
    have xN : Ex (noT S7) H9 := fun c o h => by
      obtain ⟨h1, h2⟩ := noT_to h
      exact eN _ _ (e8 _ _ (g67.i _ _ h1)) h2
    have hW0 : WebV (noT S7) v n es := by
      obtain ⟨b, h1, ps, h2, h3⟩ := hW.mono g67.s
      exact ⟨b, h1.noT, ps, h2.noT, h3.mono fun _ _ q => TupA.noT q⟩
    obtain ⟨xss, ⟨rows, hrows, hrp⟩, hxl, hxp⟩ := hN
    have hrows0 : LstA (noT S7) nr rows := (hrows.mono (x16.trans g7.s)).noT
    have hrp0 : Paired (fun x xs => LstA (noT S7) x (nV xs)) rows xss := hrp.mono fun _ _ q => (q.mono (x16.trans g7.s)).noT
    have hDG0 : DictG (noT S7) (.ref da) [0] fun _ => 0 := (hDG.mono g7.s).noT
    have hFL0 : LstA (noT S7) (.ref fa) [.ref da] := (hFL.mono g7.s).noT
    generalize noT S7 = S0 at xN hW0 hrows0 hrp0 hDG0 hFL0
    have g0 : Gr [] S0 H9 (upd S0 oa2 (.lst (nV (0 :: rest)))) (upd H9 oa2 (.lst (nV (0 :: rest)))) := Gr.new xN hoa2
    have hOL : LstA (upd S0 oa2 (.lst (nV (0 :: rest)))) (.ref oa2) (nV (0 :: rest)) := ⟨oa2, rfl, upd_same⟩
    have hWb := hW0.mono g0.s
    have hrowsb := hrows0.mono g0.s
    have hrpb : Paired (fun x xs => LstA (upd S0 oa2 (.lst (nV (0 :: rest)))) x (nV xs)) rows xss := hrp0.mono fun _ _ q => q.mono g0.s
    have hDGb := hDG0.mono g0.s
    have hFLb := hFL0.mono g0.s
    have xb := g0.i
    generalize upd S0 oa2 (.lst (nV (0 :: rest))) = Sb at hOL hWb hrowsb hrpb hDGb hFLb xb
    generalize upd H9 oa2 (.lst (nV (0 :: rest))) = Hb at xb ⊢
    clear g0 xN hW0 hrows0 hrp0 hDG0 hFL0
    dsimp only
    show tSeq _ _ _ [some v, some (.int 0), some (.int 0), some nr, some (.ref oa2), some (.ref fa), none, none, none, none, none, none, some (.ref al), none, none] Hb
    obtain ⟨oa3, eo3, hoa3⟩ := id hOL
    cases eo3
    refine for_turns (n := rest.length) (S := Sb) (u := fun i σ' => σ'.set 6 (some (.int (rest.getD i 0 : Int)))) (turns_nats (K := K) (j := 6) (tl := tSl (rSlL K) (tVar 4) (tPart (tC (.int 1))) tNoPart) (EvG.ofL (el_sl (ev_var rfl) (eo_some ev_c) eo_none (sq_of hoa3)) fun p S' _ hp => ⟨p, rfl, by rw [hp]; congr 1; rw [cut1]; rfl⟩) Hb xb)
      (fun S4 i σ' H' => ∃ (S5 : Hp) (fv : V) (vs : List V) (gs : List (Nat → Int)) (y6 y7 y8 y9 y10 y11 : Option V), σ' = [some v, some (.int 0), some (.int 0), some nr, some (.ref oa2), some fv, y6, y7, y8, y9, y10, y11, some (.ref al), none, none] ∧ Gr [] Sb Hb S5 H' ∧ Ex S4 S5 ∧ LstA S5 fv vs ∧ Paired (fun x g => DictG S5 x ((0 :: rest).take (i + 1)) g) vs gs ∧ EnumI es ((0 :: rest).take (i + 1)) gs)
      (fun S4 H4 g4 => ⟨S4, .ref fa, [.ref da], [fun _ => 0], none, none, none, none, none, none, rfl, g4, Ex.refl _, hFLb.mono g4.s, .cons (hDGb.mono g4.s) .nil, EnumI.start hne⟩)
      (fun S4 i σ' H' ⟨_, _, _, _, _, _, _, _, _, _, _, g, x, _⟩ => x.trans g.i) ?_ ?_
    · rintro S4 i σ' H' hi ⟨S5, fv, vs, gs, y6, y7, y8, y9, y10, y11, rfl, gg, x45, hfv, hps, I⟩ H10 e10
      have hir : rest[i]? = some (rest.getD i 0) := by rw [List.getD_eq_getElem?_getD, List.getElem?_eq_getElem hi]; rfl
      obtain ⟨s1, hs1, hadj1⟩ := hpar i _ hir
      generalize hhr : rest.getD i 0 = hr at hir hadj1 ⊢
      obtain ⟨seen, hseen⟩ : ∃ seen, seen = (0 :: rest).take (i + 1) := ⟨_, rfl⟩
      rw [← hseen] at hps I hs1
      have hseen2 : (0 :: rest).take (i + 1 + 1) = seen ++ [hr] := by
        rw [hseen, List.take_add_one (i := i + 1)]
        show _ ++ (rest[i]?).toList = _
        rw [hir]; rfl
      rw [hseen2]
      have h0s : 0 ∈ seen := by rw [hseen, List.take_succ_cons]; exact List.mem_cons_self ..
      have hsl : seen.length ≤ 7 := by rw [hseen, List.length_take, List.length_cons]; omega
      have hns : hr ∉ seen := fun hm => by
        have h2 : (seen ++ [hr]).Nodup := by rw [← hseen2]; exact hnd.sublist (List.take_sublist _ _)
        exact (List.nodup_append.mp h2).2.2 _ hm _ (List.mem_singleton.mpr rfl) rfl
      have hrn : hr < n := List.mem_range.mp (hperm.mem_iff.mp (List.mem_cons_of_mem _ (List.mem_of_getElem? hir)))
      have gg10 := gg.trans (Gr.of_ex gg.i e10)
      have hgl : gs.length ≤ 200 := by
        have h1 := I.len
        have h2 : 2 ^ seen.length ≤ 2 ^ 7 := Nat.pow_le_pow_right (by decide) hsl
        omega
      have x5b : Ex Sb S5 := gg.s
      show tSeq _ _ _ [some v, some (.int 0), some (.int 0), some nr, some (.ref oa2), some fv, some (.int (hr : Int)), y7, y8, y9, y10, y11, some (.ref al), none, none] H10
      refine x_seq (x_asg (x_lst (x_nil ⟨by show 0 ≤ sizeLine; omega, fun L hL => ?_⟩)))
      have hHL : Hb L = none := gg10.fr xb hL
      have h5L : S5 L = none := gg10.frS hL
      have gg11 : Gr [] Sb Hb S5 (upd H10 L (.lst [])) := gg10.trans (Gr.lay gg10.i hL)
      have h11L : upd H10 L (.lst []) L = some (.lst []) := upd_same
      generalize upd H10 L (.lst []) = H11 at gg11 h11L ⊢
      dsimp only
      show tSeq _ _ _ [some v, some (.int 0), some (.int 0), some nr, some (.ref oa2), some fv, some (.int (hr : Int)), some (.ref L), y8, y9, y10, y11, some (.ref al), none, none] H11
      obtain ⟨xs, hxs⟩ : ∃ xs, xss[hr]? = some xs := ⟨xss[hr]'(by omega), List.getElem?_eq_getElem (by omega)⟩
      obtain ⟨row, hrow, ar, ear, har⟩ := pgetR hrpb hxs
      subst ear
      have hperm2 := hxp hr xs hxs
      have hxlen : xs.length ≤ 60 := by rw [hperm2.length_eq]; exact Nat.le_trans (nb_len es hr) hedge.few
      let sm : List Nat := xs.filter fun u => decide (u ∈ seen)
      have hsm : ∀ u, u ∈ sm ↔ Adj es hr u ∧ u ∈ seen := fun u => by
        rw [List.mem_filter, hperm2.mem_iff, mem_nb, decide_eq_true_eq]
      have hsmne : ∃ s0 r0, sm = s0 :: r0 := by
        have : s1 ∈ sm := (hsm s1).mpr ⟨hadj1, hs1⟩
        cases q : sm with
        | nil => rw [q] at this; cases this
        | cons a r => exact ⟨a, r, rfl⟩
      obtain ⟨s0, r0, hs0⟩ := hsmne
      have hs0m : s0 ∈ sm := by rw [hs0]; exact List.mem_cons_self ..
      have hs0s : s0 ∈ seen := ((hsm s0).mp hs0m).2
      have hsml : sm.length ≤ 60 := Nat.le_trans (List.length_filter_le _ _) hxlen
      obtain ⟨af, efv, haf⟩ := id hfv
      subst efv
      refine for_turns (n := vs.length) (u := fun j σ' => σ'.set 8 (some (vs.getD j .non))) (S := S5)
        (turns_listAt (a := af) (xs := vs) (ev_var rfl) gg11.i (sq_of haf) (tab_turn (K := K)))
        (fun S6 j σ' H' => ∃ (S7 : Hp) (ws : List V) (y8 y9 y10 y11 : Option V), σ' = [some v, some (.int 0), some (.int 0), some nr, some (.ref oa2), some (.ref af), some (.int (hr : Int)), some (.ref L), y8, y9, y10, y11, some (.ref al), none, none] ∧ Gr [] Sb Hb S7 H' ∧ Ex S6 S7 ∧ Ex S5 S7 ∧ S7 L = none ∧ H' L = some (.lst ws) ∧ Paired (fun x g => DictG S7 x (seen ++ [hr]) g) ws ((gs.take j).flatMap (kids sm s0 hr)))
        (fun S6 H6 g6 => ⟨S6, [], y8, y9, y10, y11, rfl, gg11.trans g6, Ex.refl _, g6.s, g6.f _ h5L (by rw [h11L]; simp), g6.ex _ _ h11L, .nil⟩)
        (fun S6 j σ' H' ⟨_, _, _, _, _, _, _, g, x, _⟩ => x.trans g.i) ?_ ?_
      · rintro S6 j σ' H' hj ⟨S7, ws, y8, y9, y10, y11, rfl, gg7, x67, x57, h7L, hHL7, hps7⟩ H12 e12
        have hvj : vs[j]? = some vs[j] := List.getElem?_eq_getElem hj
        obtain ⟨g, hgj, hDj⟩ := pget hps hvj
        rw [getD_of hvj]
        generalize vs[j] = tv at hvj hDj ⊢
        have hkl : ((gs.take j).flatMap (kids sm s0 hr)).length ≤ 400 := by
          have hk : ∀ l : List (Nat → Int), (l.flatMap (kids sm s0 hr)).length ≤ 2 * l.length := fun l => by
            induction l with
            | nil => simp
            | cons g r ih =>
              rw [List.flatMap_cons, List.length_append, List.length_cons]
              have : (kids sm s0 hr g).length ≤ 2 := by
                unfold kids
                rw [List.length_map]
                exact List.length_filter_le _ _
              omega
          have := hk (gs.take j)
          rw [List.length_take] at this
          omega
        have gg12 := gg7.trans (Gr.of_ex gg7.i e12)
        have hL12 := e12 _ _ hHL7
        have hD7 := hDj.mono x57
        have x7b : Ex Sb S7 := gg12.s
        show tSeq _ _ _ [some v, some (.int 0), some (.int 0), some nr, some (.ref oa2), some (.ref af), some (.int (hr : Int)), some (.ref L), some tv, y9, y10, y11, some (.ref al), none, none] H12
        have hnb : Turns (iList K (tOp (rIxL K) (tVar 3) (tVar 6))) (gName 13) [some v, some (.int 0), some (.int 0), some nr, some (.ref oa2), some (.ref af), some (.int (hr : Int)), some (.ref L), some tv, y9, y10, y11, some (.ref al), none, none] S7 xs.length fun i σ' => σ'.set 13 (some (.int (xs.getD i 0 : Int))) :=
          turns_nats (K := K) (EvG.of (v := .ref ar) (ev_ixL (x := nr) (j := hr) (xs := rows) (ev_var rfl) (ev_var rfl) (hrowsb.mono x7b) hrow) fun S' e => ⟨ar, rfl, e _ _ (x7b _ _ har)⟩)
        refine q_asgG (S := S7) (P := fun r S' => LstA S' r (nV sm)) (EvG.imp (lc_filter (n := xs.length) (fun k => decide (xs.getD k 0 ∈ seen)) (fun k => V.int (xs.getD k 0 : Int)) hnb (fun i _ => set1_wipe _ _ _) (by omega) (fun k S8 hk e => (hD7.mono e).has (ev_var rfl) (ev_var rfl)) (fun k S8 hk _ e => ev_var rfl)) fun r S' _ hr2 => by
            have e1 : ((List.range xs.length).filter fun k => decide (xs.getD k 0 ∈ seen)).map (fun k => V.int (xs.getD k 0 : Int)) = nV sm := by
              show _ = nV (xs.filter fun u => decide (u ∈ seen))
              rw [← filt_get xs fun u => decide (u ∈ seen)]
              unfold nV
              rw [List.map_map]; rfl
            rw [← e1]; exact hr2) gg12.i (fun sv S8 H13 g13 hsv => ?_)
        have gg13 := gg12.trans g13
        have h8L : S8 L = none := g13.f _ h7L (by rw [hL12]; simp)
        have hL13 := g13.ex _ _ hL12
        have hD8 := hD7.mono g13.s
        show tFor _ _ _ _ [some v, some (.int 0), some (.int 0), some nr, some (.ref oa2), some (.ref af), some (.int (hr : Int)), some (.ref L), some tv, some sv, y10, y11, some (.ref al), none, none] H13
        have hev : ∀ S9, Ex S8 S9 → Ev (tDGet (tVar 8) (tOp (rIxL K) (tVar 9) (tC (.int 0)))) [some v, some (.int 0), some (.int 0), some nr, some (.ref oa2), some (.ref af), some (.int (hr : Int)), some (.ref L), some tv, some sv, y10, y11, some (.ref al), none, none] S9 (.int (g s0)) := fun S9 e9 => (hD8.mono e9).get hs0s (ev_var rfl) (ev_ixL (j := 0) (ev_var rfl) ev_c (hsv.mono e9) (nV_get (by rw [hs0]; rfl)))
        refine for_turns (n := 2) (S := S8) (u := fun m σ' => σ'.set 10 (some (.int ([g s0 - 1, g s0 + 1].getD m 0))))
          (turns_new (K := K) (P := fun v S' => LstA S' v [.int (g s0 - 1), .int (g s0 + 1)]) (EvG.ofL (xs := [.int (g s0 - 1), .int (g s0 + 1)]) (el_lst (ea_cons (ev_op (hev _ (Ex.refl _)) ev_c rv_I0) (ea_cons (ev_op (hev _ (Ex.refl _)) ev_c rv_I0) ea_nil)) (by show 2 ≤ 100000; decide)) fun p S' _ hp => ⟨p, rfl, hp⟩) (fun x S1 e ⟨a, ea, ha⟩ => ⟨a, _, ea, sq_of ha, rfl, fun m x H σ' Q hx e' q => by
              match m, hx with
              | 0, hx => cases hx; exact q H (Ex.refl _)
              | 1, hx => cases hx; exact q H (Ex.refl _)
              | m + 2, hx => cases hx⟩) H13 gg13.i)
          (fun S9 m σ' H' => ∃ (S10 : Hp) (ws2 : List V) (y10 y11 : Option V), σ' = [some v, some (.int 0), some (.int 0), some nr, some (.ref oa2), some (.ref af), some (.int (hr : Int)), some (.ref L), some tv, some sv, y10, y11, some (.ref al), none, none] ∧ Gr [] Sb Hb S10 H' ∧ Ex S9 S10 ∧ Ex S8 S10 ∧ S10 L = none ∧ H' L = some (.lst ws2) ∧ Paired (fun x g => DictG S10 x (seen ++ [hr]) g) ws2 ((gs.take j).flatMap (kids sm s0 hr) ++ (([g s0 - 1, g s0 + 1].take m).filter (fit sm g)).map fun x => updF g hr x))
          (fun S9 H9 g9 => ⟨S9, ws, y10, y11, rfl, gg13.trans g9, Ex.refl _, g9.s, g9.f _ h8L (by rw [hL13]; simp), g9.ex _ _ hL13, by rw [List.take_zero, List.filter_nil, List.map_nil, List.append_nil]; exact hps7.mono fun _ _ q => q.mono (g13.s.trans g9.s)⟩)
          (fun S9 m σ' H' ⟨_, _, _, _, _, g, x, _⟩ => x.trans g.i) ?_ ?_
        · rintro S9 m σ' H' hm ⟨S10, ws2, y10, y11, rfl, gg10', x910, x810, h10L, hHL10, hps10⟩ H14 e14
          have hxm : [g s0 - 1, g s0 + 1][m]? = some ([g s0 - 1, g s0 + 1].getD m 0) := by
            rw [List.getD_eq_getElem?_getD]
            match m, hm with
            | 0, _ => rfl
            | 1, _ => rfl
          generalize [g s0 - 1, g s0 + 1].getD m 0 = x at hxm ⊢
          have htk : ([g s0 - 1, g s0 + 1].take (m + 1)) = [g s0 - 1, g s0 + 1].take m ++ [x] := by rw [List.take_add_one, hxm]; rfl
          have gg14 := gg10'.trans (Gr.of_ex gg10'.i e14)
          have hL14 := e14 _ _ hHL10
          have hD10 := hD8.mono x810
          have hsv10 := hsv.mono x810
          show tIfS _ _ _ _ [some v, some (.int 0), some (.int 0), some nr, some (.ref oa2), some (.ref af), some (.int (hr : Int)), some (.ref L), some tv, some sv, some (.int x), y11, some (.ref al), none, none] H14
          have hmem : ∀ k, k < sm.length → sm.getD k 0 ∈ seen := fun k hk => ((hsm _).mp (getD_memN hk)).2
          have key := ev_eqNilG (K := K) (σ := [some v, some (.int 0), some (.int 0), some nr, some (.ref oa2), some (.ref af), some (.int (hr : Int)), some (.ref L), some tv, some sv, some (.int x), y11, some (.ref al), none, none]) (S := S10) (ns := (sm.filter fun u => !decide (V.int (absI (g u - x)) = V.int 1)).map fun k : Nat => (k : Int)) (ta := tLc (iList K (tVar 9)) (gName 13) (tTest (tOp rNe (tCB rAbs (tCons (tOp (rI0 fun i j => .int (i - j)) (tDGet (tVar 8) (tVar 13)) (tVar 10)) tNil)) (tC (.int 1)))) (tVar 13) [13])
            (EvG.imp (lc_filter (n := sm.length) (fun k => !decide (V.int (absI (g (sm.getD k 0) - x)) = V.int 1)) (fun k => V.int (sm.getD k 0 : Int)) (turns_nats (K := K) (j := 13) (EvG.of (v := sv) (ev_var rfl) fun S' e => hsv10.mono e)) (fun i _ => set1_wipe _ _ _) (by omega) (fun k S11 hk e => et_test (ev_op (ev_abs (ev_op ((hD10.mono e).get (z := sm.getD k 0) (hmem k hk) (ev_var rfl) (ev_var rfl)) (ev_var rfl) rv_I0)) ev_c (rv_ne rfl))) (fun k S11 hk _ e => ev_var rfl)) fun r S' _ hr2 => by
              have e1 : ((List.range sm.length).filter fun k => !decide (V.int (absI (g (sm.getD k 0) - x)) = V.int 1)).map (fun k => V.int (sm.getD k 0 : Int)) = iV ((sm.filter fun u => !decide (V.int (absI (g u - x)) = V.int 1)).map fun k : Nat => (k : Int)) := by
                rw [← nV_iV, ← filt_get sm fun u => !decide (V.int (absI (g u - x)) = V.int 1)]
                unfold nV
                rw [List.map_map]; rfl
              rw [← e1]; exact hr2)
          have eb : ((sm.filter fun u => !decide (V.int (absI (g u - x)) = V.int 1)).map fun k : Nat => (k : Int)).isEmpty = fit sm g x := by
            rw [List.isEmpty_map, filt_empty (List.Perm.refl _)]
            unfold fit
            congr 1; funext u
            rw [Bool.not_not]
            exact decide_eq_decide.mpr ⟨fun z => by injection z, fun z => by rw [z]⟩
          rw [eb] at key
          refine s_when (b := fit sm g x) (et_test (key.mono gg14.i)) (fun hb H15 e15 => ?_) (fun hb H15 e15 => ?_)
          · -- more = dict(told)
            have gg15 := gg14.trans (Gr.of_ex gg14.i e15)
            have hL15 := e15 _ _ hL14
            obtain ⟨ta, kvs, etv, hta, hkv, hkl2⟩ := id hD10
            subst etv
            refine x_seq (x_asg (x_cons (x_var (v := .ref ta) rfl (x_nil ⟨ta, kvs, rfl, .inl (gg15.i _ _ hta), fun M hM => ?_⟩))))
            have hHM : Hb M = none := gg15.fr xb hM
            have h10M : S10 M = none := gg15.frS hM
            have hML : M ≠ L := fun e => by rw [e, hL15] at hM; cases hM
            have gg16 : Gr [] Sb Hb S10 (upd H15 M (.dK kvs)) := gg15.trans (Gr.lay gg15.i hM)
            have h16M : upd H15 M (.dK kvs) M = some (.dK kvs) := upd_same
            have hL16 : upd H15 M (.dK kvs) L = some (.lst ws2) := by rw [upd_ne (Ne.symm hML)]; exact hL15
            generalize upd H15 M (.dK kvs) = H16 at gg16 h16M hL16 ⊢
            dsimp only
            show tSeq _ _ _ [some v, some (.int 0), some (.int 0), some nr, some (.ref oa2), some (.ref af), some (.int (hr : Int)), some (.ref L), some (.ref ta), some sv, some (.int x), some (.ref M), some (.ref al), none, none] H16
            refine q_dputK (a := M) (kvs := kvs) (k := kN hr) (v := .int x) (ev_var rfl) (ev_var rfl) (ev_var rfl) h16M (by omega) (fun H17 e17 => ?_)
            have gg17 := ((gg16.trans (Gr.of_ex gg16.i e17)).put (p := M) (u := .dK (putK kvs (kN hr) (.int x))) (.inl hHM) h10M).fix hHM upd_same
            have hL17 : upd H17 M (.dK (putK kvs (kN hr) (.int x))) L = some (.lst ws2) := by rw [upd_ne (Ne.symm hML)]; exact e17 _ _ hL16
            have h17L : upd S10 M (.dK (putK kvs (kN hr) (.int x))) L = none := by rw [upd_ne (Ne.symm hML)]; exact h10L
            have hDM : DictG (upd S10 M (.dK (putK kvs (kN hr) (.int x)))) (.ref M) (seen ++ [hr]) (updF g hr x) := ⟨M, _, rfl, upd_same, fun z => by
              rw [valV_put]
              by_cases e : z = hr
              · subst e; rw [if_pos rfl, if_pos (by simp), updF_same]
              · rw [if_neg (fun h => e (kN_inj.mp h)), hkv z, updF_ne e]
                by_cases hz : z ∈ seen
                · rw [if_pos hz, if_pos (List.mem_append_left _ hz)]
                · rw [if_neg hz, if_neg (fun h => by
                    rcases List.mem_append.mp h with h | h
                    · exact hz h
                    · exact e (List.mem_singleton.mp h))], by
              have := length_putK kvs (kN hr) (.int x)
              rw [List.length_append, List.length_singleton]
              omega⟩
            have x17 : Ex S10 (upd S10 M (.dK (putK kvs (kN hr) (.int x)))) := Ex.new h10M
            generalize upd S10 M (.dK (putK kvs (kN hr) (.int x))) = S17 at gg17 h17L hDM x17
            generalize upd H17 M (.dK (putK kvs (kN hr) (.int x))) = H18 at gg17 hL17 ⊢
            have hwl : ws2.length < 100000 := by
              rw [hps10.length, List.length_append, List.length_map]
              have := List.length_filter_le (fit sm g) ([g s0 - 1, g s0 + 1].take m)
              have h3 : ([g s0 - 1, g s0 + 1].take m).length ≤ 2 := by rw [List.length_take]; exact Nat.min_le_right _ _
              omega
            refine s_app (l := L) (xs := ws2) (v := .ref M) hL17 (ev_var rfl) (ev_var rfl) hwl (fun H19 e19 => ?_)
            refine ⟨S17, ws2 ++ [.ref M], _, _, rfl, (gg17.trans (Gr.of_ex gg17.i e19)).put (.inl hHL) h17L, x910.trans x17, x810.trans x17, h17L, upd_same, ?_⟩
            rw [htk, List.filter_append, List.map_append, ← List.append_assoc]
            have e2 : ([x].filter (fit sm g)).map (fun x => updF g hr x) = [updF g hr x] := by rw [List.filter_cons, if_pos hb]; rfl
            rw [e2]
            exact paired_snoc (hps10.mono fun _ _ q => q.mono x17) hDM
          · have gg15 := gg14.trans (Gr.of_ex gg14.i e15)
            refine ⟨S10, ws2, _, _, rfl, gg15, x910, x810, h10L, e15 _ _ hL14, ?_⟩
            rw [htk, List.filter_append]
            have e2 : [x].filter (fit sm g) = [] := by rw [List.filter_cons, if_neg (by rw [hb]; decide)]; rfl
            rw [e2, List.append_nil]
            exact hps10
        · rintro S9 σ' H' ⟨S10, ws2, y10, y11, rfl, gg10', x910, x810, h10L, hHL10, hps10⟩
          refine ⟨S10, ws2, _, _, _, _, rfl, gg10', (x67.trans g13.s).trans x810, (x57.trans g13.s).trans x810, h10L, hHL10, ?_⟩
          have e1 : (gs.take (j + 1)).flatMap (kids sm s0 hr) = (gs.take j).flatMap (kids sm s0 hr) ++ (([g s0 - 1, g s0 + 1].take 2).filter (fit sm g)).map fun x => updF g hr x := by
            rw [List.take_add_one, hgj, List.flatMap_append]
            congr 1
            show List.flatMap (kids sm s0 hr) [g] = _
            rw [List.flatMap_cons, List.flatMap_nil, List.append_nil]
            rfl
          rw [e1]; exact hps10
      · rintro S6 σ' H' ⟨S7, ws, y8, y9, y10, y11, rfl, gg7, x67, x57, h7L, hHL7, hps7⟩
        dsimp only
        show tAsg (tVar 7) (gName 5) _ [some v, some (.int 0), some (.int 0), some nr, some (.ref oa2), some (.ref af), some (.int (hr : Int)), some (.ref L), y8, y9, y10, y11, some (.ref al), none, none] H'
        refine s_asg (v := .ref L) (ev_var rfl) (fun H12 e12 => ?_)
        have gg12 := (gg7.trans (Gr.of_ex gg7.i e12)).fix hHL (e12 _ _ hHL7)
        have x7 : Ex S7 (upd S7 L (.lst ws)) := Ex.new h7L
        have hvg : vs.length = gs.length := hps.length
        rw [hvg, List.take_length] at hps7
        exact ⟨upd S7 L (.lst ws), .ref L, ws, _, _, _, _, _, _, _, rfl, gg12, (x45.trans x57).trans x7, ⟨L, rfl, upd_same⟩, hps7.mono fun _ _ q => q.mono x7, I.step hne h0s hns hsm hs0m⟩
    · rintro S4 σ' H' ⟨S5, fv, vs, gs, y6, y7, y8, y9, y10, y11, rfl, gg, x45, hfv, hps, I⟩
      have hsl : (0 :: rest).take (rest.length + 1) = 0 :: rest := List.take_of_length_le (by rw [List.length_cons]; exact Nat.le_refl _)
      rw [hsl] at hps I
      have hfin := I.fin hperm hE
      have hin : ∀ z, z < n → z ∈ 0 :: rest := fun z hz => hperm.mem_iff.mpr (List.mem_range.mpr hz)
      have hgl : gs.length ≤ 200 := by
        have h1 := I.len
        have h3 : (0 :: rest).length ≤ 7 := by rw [List.length_cons]; omega
        have h2 : 2 ^ (0 :: rest).length ≤ 2 ^ 7 := Nat.pow_le_pow_right (by decide) h3
        omega
      have hvg : vs.length = gs.length := hps.length
      dsimp only
      show tRet _ _ [some v, some (.int 0), some (.int 0), some nr, some (.ref oa2), some fv, y6, y7, y8, y9, y10, y11, some (.ref al), none, none] H'
      obtain ⟨af, efv, haf⟩ := id hfv
      subst efv
      refine x_ret ?_
      refine eg_sortedTU (K := K) (σ := [some v, some (.int 0), some (.int 0), some nr, some (.ref oa2), some (.ref af), y6, y7, y8, y9, y10, y11, some (.ref al), none, none]) (S := S5) (d := n) (P := fun xs _ => xs.length = gs.length) hn0 (EvG.imp (lc_mapG (n := vs.length) (u := fun j σ' => σ'.set 8 (some (vs.getD j .non))) (fun j y S' => ∃ g, gs[j]? = some g ∧ LayV S' y n g) (fun j y A B e ⟨g, h1, h2⟩ => ⟨g, h1, h2.mono e⟩) (turns_list (a := af) (ev_var rfl) (sq_of haf) (tab_turn (K := K))) (fun i _ => set1_wipe _ _ _) (by omega) (fun j S6 hj e => ?_)) fun r S' _ ⟨acc, hacc, hpa⟩ => ⟨acc, hacc, fun x hx => ?_, by rw [hpa.length, List.length_range, hvg]⟩) (fun _ _ _ _ q => q) H' gg.i _ fun r S7 H7 g7 ⟨xs, ys, ⟨l, er, hl⟩, hpm, hlen⟩ => ?_
      · have hvj : vs[j]? = some vs[j] := List.getElem?_eq_getElem hj
        obtain ⟨g, hgj, hDj⟩ := pget hps hvj
        rw [getD_of hvj]
        have hD6 := hDj.mono e
        refine EvG.imp (eg_tupOf (lc_map (n := n) (fun z => V.int (g z)) (turns_rng1 (j := 14) (ea_cons (ev_ixT (j := 0) (ev_var rfl) ev_c (((hWb.choose_spec.1).mono gg.s).mono e) rfl) ea_nil) (by omega)) (fun i _ => set1_wipe _ _ _) (by omega) (fun z S8 hz e8 => (hD6.mono e8).get (hin z hz) (ev_var rfl) (ev_var rfl)))) fun r S' _ hr2 => ⟨g, hgj, ?_⟩
        unfold LayV
        rw [iV_tab]; exact hr2
      · obtain ⟨j, _, g, _, hg⟩ := paired_mem hpa x hx
        exact ⟨_, hg, tabI_len _ _⟩
      · subst er
        exact q gs l ys H7 hfin (by rw [hpm.length_eq, hlen]) (g7.i _ _ hl)
end
end Tr
end
section
set_option Elab.async false
set_option linter.all false
set_option maxRecDepth 100000
set_option maxHeartbeats 4000000
/-! min(d.values()) of a dict that may be locked; keys of a locked dict. -/
namespace Tr
open PySem PySem.Spec PyProof.Rows L2 Evl
def tMinV (td : TE) : TE := fun σ H Q => td σ H fun x H1 => ∃ (a : Addr) (kvs : List (Key × V)) (zs : List Int), x = .ref a ∧ Rd H1 a (.dK kvs) ∧ kvs.map (·.2) = iV zs ∧ 0 < zs.length ∧ ∀ m, m ∈ zs → (∀ j ∈ zs, m ≤ j) → Q (.int m) H1
theorem pe_minV {X : Cx} {o : Expr} {p pos apos mpos : Pos} {td : TE} (hc : X.calm = true) (hg : Gl X "min") (hm : X.mg "min" = none) (hd : PE X o td) (hb : attributeBase o "values" X.env (eval o X.env) = eval o X.env := by rfl) (hl : (apos.endLine == mpos.line) = true := by rfl)
    (hse : starEach [Expr.Call (.Attribute o "values" apos) [] [] mpos] X.env = [(false, eval (Expr.Call (.Attribute o "values" apos) [] [] mpos) X.env)] := by rfl) :
    PE X (.Call (.Name "min" p) [.Call (.Attribute o "values" apos) [] [] mpos] [] pos) (tMinV td) := by
  refine ⟨fun pn s0 σ H0 Q0 I0 hq => wpAny_Call_Name_kw (ld_blt I0 hg hm (u := .builtin "min") (by decide +kernel) ?_)⟩
  rw [hse]
  refine PySem.callWith_builtin1 (wpAny_Call_method0_late hb hl (thn (hd.run pn s0 σ H0 _ I0 hq) fun dv s ⟨y, H, I, ry, d, kvs, zs, ey, hrd, hz, hpos, q⟩ => ?_))
  subst ey
  cases ry
  obtain ⟨_, nosys, ents, rel, dof⟩ := dk_rd I.hok hrd
  obtain ⟨ep, dat⟩ := dof.dictAt
  obtain ⟨ob, es, hob, hex, hrest⟩ := id dat
  refine ⟨"dict", "dict.values", F.plainAttrs_dict, F.slot_dict_values, F.type_dict_values, ⟨ob, hob, hex.1⟩, fun b e => (by cases e; exact ⟨ob, hob, hex.2.1⟩), Calls.callWith_builtin rfl (PySem.evalArgs_none (call_meetsIn F.slot_dict_values ⟨ob, hob, hex.1⟩ F.entry_dict_values (F.args_dict_values_1 _) (meets_dict_values (mixKind X.prog X.w) d nosys) ⟨⟨ents, dof⟩, ?_⟩))⟩
  obtain ⟨vo, hvo⟩ : ∃ vo : Obj, vo = { cls := .type "dict_values", data := .fields #[.ref d] } := ⟨_, rfl⟩
  rw [← hvo]
  have kp : ∀ b u, s.heap.get? b = some u → (s.heap.push vo).get? b = some u := fun _ _ e => Heap.get?_push_of_some _ e
  have hlen : ents.length = zs.length := by
    have e1 := congrArg List.length hz
    rw [List.length_map, iV_len] at e1
    rw [← e1]; exact (KV.length rel).symm
  have at_ : ∀ (i : Nat) (v : Value), (∃ k, ents[i]? = some (k, v)) → ∃ t, v = Value.int (zs.getD i 0) t := by
    rintro i v ⟨k, hk⟩
    obtain ⟨x, h1, h2⟩ := KV.at' rel hk
    have e1 : (iV zs)[i]? = some x := by rw [← hz, List.getElem?_map, h1]; rfl
    unfold iV at e1
    rw [List.getElem?_map] at e1
    cases e2 : zs[i]? with
    | none => rw [e2] at e1; cases e1
    | some j =>
      rw [e2] at e1
      cases e1
      obtain ⟨t, e3⟩ := h2
      exact ⟨t, by rw [e3, List.getD_eq_getElem?_getD, e2]; rfl⟩
  have hsz : (s.heap.push vo).objs.size = s.heap.objs.size + 1 := Heap.size_push _ _
  have hdl : d < s.heap.objs.size := Heap.lt_size hob
  have dat1 := dat.keep kp
  have hview : (s.heap.push vo).get? s.heap.objs.size = some vo := Heap.get?_push_size _ (by rw [hvo]; rfl)
  refine call_min_walk (wpAny_pyIter_values (v := s.heap.objs.size) (d := d) ⟨_, hview, by rw [hvo], by rw [hvo]⟩ dat1 ⟨_, _, _, _, _, _, _, rfl, Walks.dictValues (knd := mixKind X.prog X.w) (A := X.A.in1) (I.ok.hd hc) (s.heap.push vo).objs.size d (by rw [hsz]; exact Nat.ne_of_lt (Nat.lt_succ_of_lt hdl)) ents ep,
    ⟨⟨_, Heap.get?_push_size _ rfl, rfl, rfl⟩, dat1.keep fun _ _ e => Heap.get?_push_of_some _ e⟩, fun b hb => ?_, by omega, CmpOf.ints_lt (fun i => zs.getD i 0) at_, fun v h' tk hP hk => ?_⟩)
  · show b < ((s.heap.push _).push _).objs.size
    rw [Heap.size_push, hsz]
    rcases List.mem_cons.mp hb with e | hb
    · rw [e, hsz]; exact Nat.lt_succ_self _
    · rw [List.mem_singleton.mp hb]; exact Nat.lt_succ_of_lt (Nat.lt_succ_of_lt hdl)
  · obtain ⟨t, rfl⟩ := at_ _ v hP
    obtain ⟨b1, b2⟩ := argBest_lt (fun i => zs.getD i 0) (ents.length - 1)
    refine ⟨.int _, H, I.kept (t' := tk) fun b u e => hk b u (fun hm => ?_) (Heap.get?_push_of_some _ (kp b u e)), ⟨t, rfl⟩, q _ ?_ fun j hj => ?_⟩
    · rw [List.mem_singleton.mp hm, hsz] at e
      exact absurd (Heap.lt_size e) (Nat.not_lt.mpr (Nat.le_succ _))
    · generalize argBest _ (ents.length - 1) = m at b1 ⊢
      have hm : m < zs.length := by omega
      rw [List.getD_eq_getElem?_getD, List.getElem?_eq_getElem hm]
      exact List.getElem_mem hm
    · obtain ⟨i, hi, rfl⟩ := List.getElem_of_mem hj
      have := b2 i (by omega)
      rw [List.getD_eq_getElem?_getD (i := i), List.getElem?_eq_getElem hi] at this
      exact this
end Tr
end
section
set_option linter.all false
/-! how far a laying lies from another, up to even shifts. Plain Lean. -/
namespace Tr
theorem sum_upd {f f' : Nat → Int} {v : Nat} : ∀ n, v < n → (∀ i, i < n → i ≠ v → f' i = f i) → ((List.range n).map f').sum = ((List.range n).map f).sum + (f' v - f v)
  | 0, h, _ => absurd h (by omega)
  | n + 1, h, he => by
    rw [List.range_succ, List.map_append, List.map_append, List.sum_append, List.sum_append]
    have e1 : ([n].map f').sum = f' n := by simp
    have e2 : ([n].map f).sum = f n := by simp
    rw [e1, e2]
    by_cases q : v = n
    · subst q
      have : (List.range v).map f' = (List.range v).map f := List.map_congr_left fun i hi => he i (by have := List.mem_range.mp hi; omega) (by have := List.mem_range.mp hi; omega)
      rw [this]; omega
    · have := sum_upd n (by omega) fun i hi hne => he i (by omega) hne
      rw [this, he n (by omega) (Ne.symm q)]; omega
theorem sum_even {f : Nat → Int} : ∀ n, (∀ i, i < n → f i % 2 = 0) → ((List.range n).map f).sum % 2 = 0
  | 0, _ => rfl
  | n + 1, h => by
    rw [List.range_succ, List.map_append, List.sum_append]
    have e2 : ([n].map f).sum = f n := by simp
    have h1 := sum_even n fun i hi => h i (by omega)
    have h2 := h n (by omega)
    rw [e2]; omega
theorem sum_nonneg {f : Nat → Int} : ∀ n, (∀ i, i < n → 0 ≤ f i) → 0 ≤ ((List.range n).map f).sum
  | 0, _ => Int.le_refl _
  | n + 1, h => by
    rw [List.range_succ, List.map_append, List.sum_append]
    have e2 : ([n].map f).sum = f n := by simp
    have h1 := sum_nonneg n fun i hi => h i (by omega)
    have h2 := h n (by omega)
    rw [e2]; omega
theorem sum_zero {f : Nat → Int} : ∀ n, (∀ i, i < n → 0 ≤ f i) → ((List.range n).map f).sum = 0 → ∀ i, i < n → f i = 0
  | 0, _, _, i, hi => absurd hi (by omega)
  | n + 1, h, hs, i, hi => by
    rw [List.range_succ, List.map_append, List.sum_append] at hs
    have e2 : ([n].map f).sum = f n := by simp
    rw [e2] at hs
    have h1 := sum_nonneg n fun i hi => h i (by omega)
    have h2 := h n (by omega)
    by_cases q : i = n
    · rw [q]; omega
    · exact sum_zero n (fun i hi => h i (by omega)) (by omega) i (by omega)
theorem sum_c0 : ∀ n : Nat, ((List.range n).map fun _ => (0 : Int)).sum = 0
  | 0 => rfl
  | n + 1 => by rw [List.range_succ, List.map_append, List.sum_append, sum_c0 n]; rfl
theorem absI_nonneg {x : Int} : 0 ≤ absI x := by unfold absI; split <;> omega
theorem absI_even {x : Int} (h : x % 2 = 0) : absI x % 2 = 0 := by unfold absI; split <;> omega
/-- the sum at a shift, as a sum over fields -/
def sumA (n : Nat) (D : Nat → Int) (t : Int) : Int := ((List.range n).map fun i => absI (D i - t)).sum
theorem sumS_map {n : Nat} {D : Nat → Int} {t : Int} : sumS ((List.range n).map D) t = sumA n D t := by
  unfold sumS sumA
  rw [List.map_map]; rfl
theorem med_ex {n : Nat} (hn : 1 ≤ n) (D : Nat → Int) : ∃ t, IsMed n D t := by
  have hp := List.mergeSort_perm ((List.range n).map D) (fun a b => decide (a ≤ b))
  have hs : (((List.range n).map D).mergeSort fun a b => decide (a ≤ b)).Pairwise (· ≤ ·) :=
    (List.pairwise_mergeSort (le := fun a b : Int => decide (a ≤ b)) (fun a b c h1 h2 => decide_eq_true (Int.le_trans (of_decide_eq_true h1) (of_decide_eq_true h2))) (fun a b => by rw [Bool.or_eq_true, decide_eq_true_eq, decide_eq_true_eq]; omega) _).imp fun h => of_decide_eq_true h
  obtain ⟨m, M, _, _, h, _⟩ := med_of hn hp hs
  exact ⟨m, h⟩
section
variable {n : Nat} {es : List (Nat × Nat)} {c : Nat → Nat} {one : Nat → Int}
/-- h lies k turns from one -/
def Dst (n : Nat) (one h : Nat → Int) (k : Nat) : Prop := ∃ t, IsMed n (fun i => one i - h i) t ∧ sumA n (fun i => one i - h i) t = 2 * (k : Int)
theorem Dst.uniq {h : Nat → Int} {k k' : Nat} (a : Dst n one h k) (b : Dst n one h k') : k = k' := by
  obtain ⟨t, h1, h2⟩ := a
  obtain ⟨t', h3, h4⟩ := b
  rw [h1.uniq h3] at h2
  omega
theorem Dst.le {h : Nat → Int} {k : Nat} (a : Dst n one h k) (t : Int) : 2 * (k : Int) ≤ sumA n (fun i => one i - h i) t := by
  obtain ⟨s, h1, h2⟩ := a
  have := h1.min t
  rw [sumS_map, sumS_map, h2] at this
  exact this
theorem Lay.even {h : Nat → Int} (hC : Conn es n) (hn : 0 < n) (L1 : Lay es one) (L2 : Lay es h) (h0 : (one 0 - h 0) % 2 = 0) : ∀ v, v < n → (one v - h v) % 2 = 0 :=
  hC (fun v => (one v - h v) % 2 = 0) ⟨0, hn, h0⟩ fun u v ha hu => by
    have := L1.adj ha
    have := L2.adj ha
    omega
theorem dst_ex {h : Nat → Int} (hn : 0 < n) (he : ∀ v, v < n → (one v - h v) % 2 = 0) : ∃ k, Dst n one h k := by
  obtain ⟨t, ht⟩ := med_ex hn fun i => one i - h i
  obtain ⟨i, hi, ei⟩ := ht.at_
  have h1 : sumA n (fun i => one i - h i) t % 2 = 0 := sum_even n fun j hj => absI_even (by
    have := he j hj
    have := he i hi
    show (one j - h j - t) % 2 = 0
    omega)
  have h2 : 0 ≤ sumA n (fun i => one i - h i) t := sum_nonneg n fun _ _ => absI_nonneg
  exact ⟨(sumA n (fun i => one i - h i) t / 2).toNat, t, ht, by omega⟩
/-- one field moved by b -/
theorem sumA_upd {h : Nat → Int} {x : Nat} (hx : x < n) (b t : Int) : sumA n (fun i => one i - updF h x (h x + b) i) t = sumA n (fun i => one i - h i) t + (absI (one x - (h x + b) - t) - absI (one x - h x - t)) := by
  unfold sumA
  rw [sum_upd (f := fun i => absI (one i - h i - t)) (f' := fun i => absI (one i - updF h x (h x + b) i - t)) n hx fun i _ hne => by rw [updF_ne hne]]
  rw [updF_same]
theorem dst_lip {h : Nat → Int} {x k k' : Nat} {b : Int} (hb : b = 2 ∨ b = -2) (hx : x < n) (a : Dst n one h k) (a' : Dst n one (updF h x (h x + b)) k') : k' ≤ k + 1 := by
  obtain ⟨t, h1, h2⟩ := id a
  have h3 := a'.le t
  rw [sumA_upd hx, h2] at h3
  have : absI (one x - (h x + b) - t) ≤ absI (one x - h x - t) + 2 := by
    unfold absI
    rcases hb with rfl | rfl <;> split <;> split <;> omega
  omega
/-- the way down -/
theorem dst_down {h : Nat → Int} {k : Nat} (hn : 0 < n) (hE : ∀ e ∈ es, e.1 < n ∧ e.2 < n) (L1 : Lay es one) (L2 : Lay es h) (he : ∀ v, v < n → (one v - h v) % 2 = 0) (a : Dst n one h (k + 1)) :
    ∃ x, x < n ∧ ((lowB es h x = true ∧ sumA n (fun i => one i - updF h x (h x + 2) i) (a.choose) ≤ 2 * (k : Int)) ∨ (highB es h x = true ∧ sumA n (fun i => one i - updF h x (h x + -2) i) (a.choose) ≤ 2 * (k : Int))) := by
  obtain ⟨h1, h2⟩ := a.choose_spec
  generalize a.choose = t at h1 h2 ⊢
  obtain ⟨i0, hi0, ei0⟩ := h1.at_
  have ht : ∀ v, v < n → (one v - h v - t) % 2 = 0 := fun v hv => by
    have := he v hv
    have := he i0 hi0
    omega
  have hadjn : ∀ u v, Adj es u v → u < n := fun u v ha => by
    rcases ha with q | q
    · exact (hE _ q).1
    · exact (hE _ q).2
  by_cases hp : ∃ v, v < n ∧ 0 < one v - h v - t
  · -- the lowest field below its goal
    obtain ⟨v0, hv0, hv0p⟩ := hp
    obtain ⟨x, hx, hxl⟩ := least_of (fun i => if 0 < one i - h i - t then h i else (h v0 + h i * h i + 1)) n hn
    have hsq : ∀ z : Int, 0 ≤ z * z := fun z => by
      rcases Int.le_total 0 z with q | q
      · exact Int.mul_nonneg q q
      · exact Int.mul_nonneg_of_nonpos_of_nonpos q q
    have hxp : 0 < one x - h x - t := by
      by_cases q : 0 < one x - h x - t
      · exact q
      · exfalso
        have := hxl v0 hv0
        rw [if_neg q, if_pos hv0p] at this
        have := hsq (h x)
        omega
    refine ⟨x, hx, .inl ⟨lowB_iff.mpr fun u ha => ?_, ?_⟩⟩
    · have hu := hadjn u x ha.symm
      have h3 := L1.adj ha
      have h4 := L2.adj ha
      have h5 := hxl u hu
      rw [if_pos hxp] at h5
      by_cases q : 0 < one u - h u - t
      · rw [if_pos q] at h5; exact h5
      · omega
    · rw [sumA_upd hx, h2]
      have := ht x hx
      have e1 : absI (one x - (h x + 2) - t) = one x - h x - t - 2 := by unfold absI; split <;> omega
      have e2 : absI (one x - h x - t) = one x - h x - t := by unfold absI; split <;> omega
      rw [e1, e2]; omega
  · by_cases hp2 : ∃ v, v < n ∧ one v - h v - t < 0
    · obtain ⟨v0, hv0, hv0p⟩ := hp2
      obtain ⟨x, hx, hxl⟩ := least_of (fun i => if one i - h i - t < 0 then -h i else (-h v0 + h i * h i + 1)) n hn
      have hsq : ∀ z : Int, 0 ≤ z * z := fun z => by
        rcases Int.le_total 0 z with q | q
        · exact Int.mul_nonneg q q
        · exact Int.mul_nonneg_of_nonpos_of_nonpos q q
      have hxp : one x - h x - t < 0 := by
        by_cases q : one x - h x - t < 0
        · exact q
        · exfalso
          have := hxl v0 hv0
          rw [if_neg q, if_pos hv0p] at this
          have := hsq (h x)
          omega
      refine ⟨x, hx, .inr ⟨highB_iff.mpr fun u ha => ?_, ?_⟩⟩
      · have hu := hadjn u x ha.symm
        have h3 := L1.adj ha
        have h4 := L2.adj ha
        have h5 := hxl u hu
        rw [if_pos hxp] at h5
        by_cases q : one u - h u - t < 0
        · rw [if_pos q] at h5; omega
        · omega
      · rw [sumA_upd hx, h2]
        have := ht x hx
        have e1 : absI (one x - (h x + -2) - t) = -(one x - h x - t) - 2 := by unfold absI; split <;> omega
        have e2 : absI (one x - h x - t) = -(one x - h x - t) := by unfold absI; split <;> omega
        rw [e1, e2]; omega
    · exfalso
      have hz : sumA n (fun i => one i - h i) t = 0 := by
        unfold sumA
        have : (List.range n).map (fun i => absI (one i - h i - t)) = (List.range n).map fun _ => (0 : Int) := List.map_congr_left fun i hi => by
          have hi := List.mem_range.mp hi
          have a1 : ¬ 0 < one i - h i - t := fun q => hp ⟨i, hi, q⟩
          have a2 : ¬ one i - h i - t < 0 := fun q => hp2 ⟨i, hi, q⟩
          have : one i - h i - t = 0 := by omega
          rw [this]; rfl
        rw [this]
        exact sum_c0 n
      omega
end
end Tr
end
section
set_option Elab.async false
set_option linter.all false
set_option maxRecDepth 100000
set_option maxHeartbeats 1000000
/-! folds: which faces are open, what a turn makes; texts and how far they lie. -/
namespace Tr
section
variable {n : Nat} {es : List (Nat × Nat)} {c : Nat → Nat} {one : Nat → Int}
theorem sgn_adj (hC : Col es c) {e : Nat × Nat} (he : e ∈ es) : sgn (c e.2 + c 0) = -sgn (c e.1 + c 0) := by
  have := hC e.1 e.2 (.inl he)
  unfold sgn
  split <;> split <;> omega
theorem fold_1 (h : Nat → Int) (e : Nat × Nat) : foldB c h e = decide (0 < (h e.2 - h e.1) * sgn (c e.1 + c 0)) := rfl
theorem fold_2 (hC : Col es c) (h : Nat → Int) {e : Nat × Nat} (he : e ∈ es) : foldB c h e = decide (0 < (h e.1 - h e.2) * sgn (c e.2 + c 0)) := by
  rw [fold_1, sgn_adj hC he]
  congr 2
  rw [Int.mul_neg, ← Int.neg_mul]
  congr 1; omega
/-- a letter at x by the neighbor u -/
theorem fold_at (hC : Col es c) (h : Nat → Int) {x u : Nat} (ha : Adj es x u) : ∃ e ∈ es, touch e x = true ∧ foldB c h e = decide (0 < (h u - h x) * sgn (c x + c 0)) := by
  rcases ha with q | q
  · exact ⟨(x, u), q, by unfold touch; simp, rfl⟩
  · exact ⟨(u, x), q, by unfold touch; simp, fold_2 hC h q⟩
theorem at_fold (hC : Col es c) (h : Nat → Int) {x : Nat} {e : Nat × Nat} (he : e ∈ es) (ht : touch e x = true) : ∃ u, Adj es x u ∧ foldB c h e = decide (0 < (h u - h x) * sgn (c x + c 0)) := by
  unfold touch at ht
  rw [Bool.or_eq_true, decide_eq_true_eq, decide_eq_true_eq] at ht
  obtain ⟨a, b⟩ := e
  rcases ht with rfl | rfl
  · exact ⟨b, .inl he, rfl⟩
  · exact ⟨a, .inr he, fold_2 hC h he⟩
theorem mem_lets {h : Nat → Int} {x : Nat} {b : Bool} : b ∈ letsAt es (foldsL es c h) x ↔ ∃ e ∈ es, touch e x = true ∧ foldB c h e = b := by
  unfold letsAt
  rw [List.mem_map]
  constructor
  · rintro ⟨i, hi, rfl⟩
    obtain ⟨h1, h2⟩ := List.mem_filter.mp hi
    have hi := List.mem_range.mp h1
    exact ⟨_, es_getD hi, h2, (foldsL_get hi).symm⟩
  · rintro ⟨e, he, ht, rfl⟩
    obtain ⟨i, hi, ei⟩ := List.getElem_of_mem he
    have e2 : es.getD i (0, 0) = e := by rw [List.getD_eq_getElem?_getD, List.getElem?_eq_getElem hi]; exact ei
    exact ⟨i, List.mem_filter.mpr ⟨List.mem_range.mpr hi, by rw [e2]; exact ht⟩, by rw [foldsL_get hi, e2]⟩
theorem mono1_iff {l : List Bool} : mono1 l = true ↔ (∃ b, b ∈ l) ∧ ((∀ b ∈ l, b = true) ∨ ∀ b ∈ l, b = false) := by
  unfold mono1
  rw [Bool.and_eq_true, Bool.or_eq_true, List.all_eq_true, List.all_eq_true]
  have h1 : (!l.isEmpty) = true ↔ ∃ b, b ∈ l := by
    cases l with
    | nil => simp
    | cons a r => exact ⟨fun _ => ⟨a, by simp⟩, fun _ => rfl⟩
  rw [h1]
  simp
theorem open_iff (hC : Col es c) {h : Nat → Int} (L : Lay es h) {x : Nat} : mono1 (letsAt es (foldsL es c h) x) = true ↔ (∃ u, Adj es x u) ∧ (lowB es h x = true ∨ highB es h x = true) := by
  rw [mono1_iff, lowB_iff, highB_iff]
  constructor
  · rintro ⟨⟨b, hb⟩, hh⟩
    obtain ⟨e, he, ht, _⟩ := mem_lets.mp hb
    obtain ⟨u, hu, _⟩ := at_fold hC h he ht
    refine ⟨⟨u, hu⟩, ?_⟩
    have key : ∀ v, Adj es x v → (decide (0 < (h v - h x) * sgn (c x + c 0))) ∈ letsAt es (foldsL es c h) x := fun v hv => by
      obtain ⟨e, he, ht, q⟩ := fold_at hC h hv
      exact mem_lets.mpr ⟨e, he, ht, q⟩
    rcases sgn_or (c x + c 0) with s | s
    · rcases hh with hh | hh
      · refine .inl fun v hv => ?_
        have := of_decide_eq_true (hh _ (key v hv))
        rw [s] at this; omega
      · refine .inr fun v hv => ?_
        have := of_decide_eq_false (hh _ (key v hv))
        rw [s] at this; omega
    · rcases hh with hh | hh
      · refine .inr fun v hv => ?_
        have := of_decide_eq_true (hh _ (key v hv))
        rw [s] at this; omega
      · refine .inl fun v hv => ?_
        have := of_decide_eq_false (hh _ (key v hv))
        rw [s] at this; omega
  · rintro ⟨⟨u, hu⟩, hh⟩
    obtain ⟨e, he, ht, q⟩ := fold_at hC h hu
    refine ⟨⟨_, mem_lets.mpr ⟨e, he, ht, rfl⟩⟩, ?_⟩
    have key : ∀ b ∈ letsAt es (foldsL es c h) x, ∃ v, Adj es x v ∧ b = decide (0 < (h v - h x) * sgn (c x + c 0)) := fun b hb => by
      obtain ⟨e, he, ht, rfl⟩ := mem_lets.mp hb
      obtain ⟨v, hv, q⟩ := at_fold hC h he ht
      exact ⟨v, hv, q⟩
    rcases hh with hh | hh
    · rcases sgn_or (c x + c 0) with s | s
      · refine .inl fun b hb => ?_
        obtain ⟨v, hv, rfl⟩ := key b hb
        have := hh v hv
        have := L.adj hv
        rw [s]; exact decide_eq_true (by omega)
      · refine .inr fun b hb => ?_
        obtain ⟨v, hv, rfl⟩ := key b hb
        have := hh v hv
        have := L.adj hv
        rw [s]; exact decide_eq_false (by omega)
    · rcases sgn_or (c x + c 0) with s | s
      · refine .inr fun b hb => ?_
        obtain ⟨v, hv, rfl⟩ := key b hb
        have := hh v hv
        have := L.adj hv
        rw [s]; exact decide_eq_false (by omega)
      · refine .inl fun b hb => ?_
        obtain ⟨v, hv, rfl⟩ := key b hb
        have := hh v hv
        have := L.adj hv
        rw [s]; exact decide_eq_true (by omega)
/-- a turn: the field goes two steps up or down -/
theorem turn_of (hC : Col es c) (hne : ∀ e ∈ es, e.1 ≠ e.2) {h : Nat → Int} (L : Lay es h) {x : Nat} {b : Int} (hb : (b = 2 ∧ lowB es h x = true) ∨ (b = -2 ∧ highB es h x = true)) : turnL es (foldsL es c h) x = foldsL es c (updF h x (h x + b)) := by
  have e1 : turnL es (foldsL es c h) x = (List.range es.length).map fun i => foldB c (updF h x (h x + b)) (es.getD i (0, 0)) := by
    unfold turnL
    refine List.map_congr_left fun i hi => ?_
    have hi := List.mem_range.mp hi
    have he := es_getD hi
    rw [foldsL_get hi]
    generalize es.getD i (0, 0) = e at he ⊢
    by_cases ht : touch e x = true
    · rw [if_pos ht]
      have hq : ∀ u, Adj es x u → h u - h x = 1 ∧ b = 2 ∨ h u - h x = -1 ∧ b = -2 := fun u hu => by
        have h3 := L.adj hu
        rcases hb with ⟨rfl, hl⟩ | ⟨rfl, hl⟩
        · have := lowB_iff.mp hl u hu; omega
        · have := highB_iff.mp hl u hu; omega
      unfold touch at ht
      rw [Bool.or_eq_true, decide_eq_true_eq, decide_eq_true_eq] at ht
      have hne2 := hne e he
      obtain ⟨p, r⟩ := e
      dsimp only at hne2 ht
      rcases ht with rfl | rfl
      · have := hq r (.inl he)
        rw [fold_1, fold_1]
        dsimp only
        rw [updF_same, updF_ne (Ne.symm hne2)]
        rcases sgn_or (c x + c 0) with s | s <;> rw [s] <;> rw [← decide_not] <;> exact decide_eq_decide.mpr (by omega)
      · have := hq p (.inr he)
        rw [fold_2 hC h he, fold_2 hC _ he]
        dsimp only
        rw [updF_same, updF_ne hne2]
        rcases sgn_or (c x + c 0) with s | s <;> rw [s] <;> rw [← decide_not] <;> exact decide_eq_decide.mpr (by omega)
    · rw [if_neg ht]
      unfold touch at ht
      rw [Bool.or_eq_true, decide_eq_true_eq, decide_eq_true_eq] at ht
      rw [fold_1, fold_1, updF_ne (fun z => ht (.inl z.symm)), updF_ne (fun z => ht (.inr z.symm))]
  rw [e1]
  unfold foldsL
  conv => rhs; rw [← range_get es (0, 0)]
  rw [List.map_map]; rfl
end
end Tr
end
section
set_option Elab.async false
set_option linter.all false
set_option maxRecDepth 100000
set_option maxHeartbeats 1000000
/-! texts by their distance. -/
namespace Tr
theorem IsMed.congr {n : Nat} {D D' : Nat → Int} {t : Int} (h : ∀ i, i < n → D i = D' i) (m : IsMed n D t) : IsMed n D' t := by
  have e : (List.range n).map D' = (List.range n).map D := List.map_congr_left fun i hi => (h i (List.mem_range.mp hi)).symm
  obtain ⟨i, hi, ei⟩ := m.at_
  exact ⟨⟨i, hi, by rw [ei, h i hi]⟩, fun t' => by rw [e]; exact m.min t', fun t' ht => by rw [e]; exact m.least t' ht⟩
theorem sumA_congr {n : Nat} {D D' : Nat → Int} {t : Int} (h : ∀ i, i < n → D i = D' i) : sumA n D t = sumA n D' t := by
  unfold sumA
  rw [List.map_congr_left fun i hi => by rw [h i (List.mem_range.mp hi)]]
/-- the setting: a colored web that hangs together, a laying of it -/
structure Web1 (n : Nat) (es : List (Nat × Nat)) (c : Nat → Nat) (one : Nat → Int) : Prop where
  n0 : 0 < n
  lt : ∀ e ∈ es, e.1 < n ∧ e.2 < n
  ne : ∀ e ∈ es, e.1 ≠ e.2
  conn : Conn es n
  col : Col es c
  lay : Lay es one
def TxtD (n : Nat) (es : List (Nat × Nat)) (c : Nat → Nat) (one : Nat → Int) (bs : List Bool) (k : Nat) : Prop := ∃ h : Nat → Int, Lay es h ∧ (one 0 - h 0) % 2 = 0 ∧ foldsL es c h = bs ∧ Dst n one h k
section
variable {n : Nat} {es : List (Nat × Nat)} {c : Nat → Nat} {one : Nat → Int}
/-- one text: one laying, up to a shift -/
theorem folds_shift (W : Web1 n es c one) {h g : Nat → Int} (L1 : Lay es h) (L2 : Lay es g) (e : foldsL es c h = foldsL es c g) : ∀ v, v < n → h v - g v = h 0 - g 0 := by
  have he : ∀ e ∈ es, h e.2 - h e.1 = g e.2 - g e.1 := fun e' he' => by
    have h1 : foldB c h e' = foldB c g e' := List.map_inj_left.mp e e' he'
    rw [← step_of (c := c) (L1 e' he'), ← step_of (c := c) (L2 e' he'), h1]
  refine W.conn (fun v => h v - g v = h 0 - g 0) ⟨0, W.n0, rfl⟩ fun u v ha hu => ?_
  rcases ha with q | q
  · have := he _ q; dsimp only at this; omega
  · have := he _ q; dsimp only at this; omega
theorem folds_congr (W : Web1 n es c one) {h g : Nat → Int} (x : Int) (e : ∀ v, v < n → h v = g v + x) : foldsL es c h = foldsL es c g := by
  unfold foldsL
  refine List.map_congr_left fun e' he => ?_
  unfold foldB
  have := W.lt e' he
  rw [e _ this.1, e _ this.2]
  congr 2
  congr 1; omega
theorem Dst.shift {h g : Nat → Int} {k : Nat} (x : Int) (e : ∀ v, v < n → h v = g v + x) (a : Dst n one h k) : Dst n one g k := by
  obtain ⟨t, h1, h2⟩ := a
  have e2 : ∀ i, i < n → one i - h i + x = one i - g i := fun i hi => by rw [e i hi]; omega
  refine ⟨t + x, (h1.shift x).congr e2, ?_⟩
  rw [← sumA_congr (D := fun i => one i - h i + x) e2]
  have := sumS_add (n := n) (D := fun i => one i - h i) (k := x) (t := t)
  rw [sumS_map, sumS_map] at this
  rw [this, h2]
theorem TxtD.uniq (W : Web1 n es c one) {bs : List Bool} {k k' : Nat} (a : TxtD n es c one bs k) (b : TxtD n es c one bs k') : k = k' := by
  obtain ⟨h, l1, p1, e1, d1⟩ := a
  obtain ⟨g, l2, p2, e2, d2⟩ := b
  have := folds_shift W l1 l2 (e1.trans e2.symm)
  exact (d1.shift (h 0 - g 0) fun v hv => by have := this v hv; omega).uniq d2
theorem TxtD.len {bs : List Bool} {k : Nat} (a : TxtD n es c one bs k) : bs.length = es.length := by
  obtain ⟨h, _, _, e, _⟩ := a
  rw [← e]; exact foldsL_len
theorem TxtD.start (W : Web1 n es c one) : TxtD n es c one (foldsL es c one) 0 := by
  obtain ⟨t, ht⟩ := med_ex W.n0 fun i => one i - one i
  obtain ⟨i, hi, ei⟩ := ht.at_
  have : t = 0 := by rw [ei]; omega
  subst this
  refine ⟨one, W.lay, by omega, rfl, 0, ht, ?_⟩
  unfold sumA
  have : (List.range n).map (fun i => absI (one i - one i - 0)) = (List.range n).map fun _ => (0 : Int) := List.map_congr_left fun i _ => by rw [show one i - one i - 0 = 0 by omega]; rfl
  rw [this, sum_c0]; rfl
theorem TxtD.zero (W : Web1 n es c one) {bs : List Bool} (a : TxtD n es c one bs 0) : bs = foldsL es c one := by
  obtain ⟨h, _, _, rfl, t, _, h2⟩ := a
  have h3 := sum_zero n (fun i _ => absI_nonneg) (show ((List.range n).map fun i => absI (one i - h i - t)).sum = 0 by unfold sumA at h2; rw [h2]; rfl)
  refine folds_congr W (-t) fun v hv => ?_
  have := h3 v hv
  unfold absI at this
  split at this <;> omega
theorem TxtD.ex (W : Web1 n es c one) {h : Nat → Int} (L : Lay es h) (hp : (one 0 - h 0) % 2 = 0) : ∃ k, TxtD n es c one (foldsL es c h) k := by
  obtain ⟨k, hk⟩ := dst_ex W.n0 (W.lay.even W.conn W.n0 L hp)
  exact ⟨k, h, L, hp, rfl, hk⟩
theorem par_upd {h : Nat → Int} {x : Nat} {b : Int} (hb : b = 2 ∨ b = -2) (hp : (one 0 - h 0) % 2 = 0) : (one 0 - updF h x (h x + b) 0) % 2 = 0 := by
  by_cases e : 0 = x
  · subst e; rw [updF_same]; omega
  · rw [updF_ne e]; exact hp
theorem Lay.move {h : Nat → Int} (L : Lay es h) (hne : ∀ e ∈ es, e.1 ≠ e.2) {x : Nat} {b : Int} (hb : (b = 2 ∧ lowB es h x = true) ∨ (b = -2 ∧ highB es h x = true)) : Lay es (updF h x (h x + b)) := by
  rcases hb with ⟨rfl, hl⟩ | ⟨rfl, hl⟩
  · exact L.raise hne hl
  · have := L.lower hne hl
    exact this
/-- a turn's text -/
theorem TxtD.turn (W : Web1 n es c one) {bs : List Bool} {k x : Nat} (a : TxtD n es c one bs k) (hx : x ∈ openL n es bs) : ∃ k', TxtD n es c one (turnL es bs x) k' ∧ k' ≤ k + 1 := by
  obtain ⟨h, L, hp, rfl, d⟩ := a
  obtain ⟨h1, h2⟩ := List.mem_filter.mp hx
  have hxn := List.mem_range.mp h1
  obtain ⟨_, ho⟩ := (open_iff W.col L).mp h2
  obtain ⟨b, hb⟩ : ∃ b : Int, (b = 2 ∧ lowB es h x = true) ∨ (b = -2 ∧ highB es h x = true) := by
    rcases ho with o | o
    · exact ⟨2, .inl ⟨rfl, o⟩⟩
    · exact ⟨-2, .inr ⟨rfl, o⟩⟩
  have hb2 : b = 2 ∨ b = -2 := hb.imp (·.1) (·.1)
  have L2 := L.move W.ne hb
  have hp2 := par_upd (x := x) hb2 hp
  obtain ⟨k', hk'⟩ := dst_ex W.n0 (W.lay.even W.conn W.n0 L2 hp2)
  exact ⟨k', ⟨_, L2, hp2, (turn_of W.col W.ne L hb).symm, hk'⟩, dst_lip hb2 hxn d hk'⟩
theorem upd_back {h : Nat → Int} {x : Nat} {b : Int} : updF (updF h x (h x + b)) x ((updF h x (h x + b)) x + -b) = h := by
  funext i
  by_cases e : i = x
  · subst e; rw [updF_same, updF_same]; omega
  · rw [updF_ne e, updF_ne e]
/-- each text but the first has one that lies a turn nearer -/
theorem TxtD.prev (W : Web1 n es c one) {bs : List Bool} {k : Nat} (a : TxtD n es c one bs (k + 1)) : ∃ cs, TxtD n es c one cs k ∧ ∃ x, x ∈ openL n es cs ∧ turnL es cs x = bs := by
  obtain ⟨h, L, hp, rfl, d⟩ := a
  have hev := W.lay.even W.conn W.n0 L hp
  obtain ⟨x, hx, hd⟩ := dst_down W.n0 W.lt W.lay L hev d
  generalize d.choose = t at hd
  have hnb : ∃ u, Adj es x u := Classical.byContradiction fun hno => by
    have hall := W.conn (fun v => v = x) ⟨x, hx, rfl⟩ fun u v ha hu => absurd ⟨v, hu ▸ ha⟩ hno
    obtain ⟨s, h1, h2⟩ := d
    obtain ⟨i, hi, ei⟩ := h1.at_
    have : sumA n (fun i => one i - h i) s = 0 := by
      unfold sumA
      have : (List.range n).map (fun j => absI (one j - h j - s)) = (List.range n).map fun _ => (0 : Int) := List.map_congr_left fun j hj => by
        rw [hall j (List.mem_range.mp hj), ei, hall i hi, Int.sub_self]; rfl
      rw [this, sum_c0]
    omega
  obtain ⟨b, hb, hsum⟩ : ∃ b : Int, ((b = 2 ∧ lowB es h x = true) ∨ (b = -2 ∧ highB es h x = true)) ∧ sumA n (fun i => one i - updF h x (h x + b) i) t ≤ 2 * (k : Int) := by
    rcases hd with ⟨o, s⟩ | ⟨o, s⟩
    · exact ⟨2, .inl ⟨rfl, o⟩, s⟩
    · exact ⟨-2, .inr ⟨rfl, o⟩, s⟩
  have hb2 : b = 2 ∨ b = -2 := hb.imp (·.1) (·.1)
  have L2 := L.move W.ne hb
  have hp2 := par_upd (x := x) hb2 hp
  obtain ⟨k0, hk0⟩ := dst_ex W.n0 (W.lay.even W.conn W.n0 L2 hp2)
  have hle := hk0.le t
  have hback : (-b = 2 ∧ lowB es (updF h x (h x + b)) x = true) ∨ (-b = -2 ∧ highB es (updF h x (h x + b)) x = true) := by
    rcases hb with ⟨rfl, hl⟩ | ⟨rfl, hl⟩
    · refine .inr ⟨rfl, highB_iff.mpr fun u hu => ?_⟩
      have hux : u ≠ x := by
        rcases hu with q | q
        · exact (W.ne _ q).symm
        · exact W.ne _ q
      have := lowB_iff.mp hl u hu
      have := L.adj hu
      rw [updF_same, updF_ne hux]; omega
    · refine .inl ⟨by omega, lowB_iff.mpr fun u hu => ?_⟩
      have hux : u ≠ x := by
        rcases hu with q | q
        · exact (W.ne _ q).symm
        · exact W.ne _ q
      have := highB_iff.mp hl u hu
      have := L.adj hu
      rw [updF_same, updF_ne hux]; omega
  have hlip : k + 1 ≤ k0 + 1 := dst_lip (x := x) (b := -b) (by omega) hx hk0 (by rw [upd_back]; exact d)
  have hk : k0 = k := by omega
  subst hk
  refine ⟨_, ⟨_, L2, hp2, rfl, hk0⟩, x, List.mem_filter.mpr ⟨List.mem_range.mpr hx, (open_iff W.col L2).mpr ⟨hnb, hback.imp (·.2) (·.2) |>.elim .inl .inr⟩⟩, ?_⟩
  rw [turn_of W.col W.ne L2 hback, upd_back]
end
/-! ### the search over texts -/
/-- texts met, with their distances; the rim; the later rim -/
structure TBfs (D : List Bool → Nat → Prop) (m : Nat) (ents : List (List Bool × Nat)) (rim later : List (List Bool)) (done : List Bool → Prop) (N : List Bool → List (List Bool)) : Prop where
  nod : (ents.map (·.1)).Nodup
  mem : ∀ bs k, (bs, k) ∈ ents ↔ D bs k ∧ (k ≤ m ∨ (k = m + 1 ∧ bs ∈ later))
  rimI : ∀ bs, bs ∈ rim ↔ D bs m
  lat : ∀ bs ∈ later, D bs (m + 1)
  dn : ∀ bs, D bs m → done bs → ∀ cs ∈ N bs, D cs (m + 1) → cs ∈ later
  len : ents.length = ents.length
section
variable {D : List Bool → Nat → Prop} {N : List Bool → List (List Bool)} {m : Nat} {ents : List (List Bool × Nat)} {rim later : List (List Bool)} {done : List Bool → Prop}
theorem TBfs.start {s : List Bool} (h0 : D s 0) (hz : ∀ bs, D bs 0 → bs = s) : TBfs D 0 [(s, 0)] [s] [] (fun _ => False) N where
  nod := by simp
  mem := fun bs k => by
    rw [List.mem_singleton, Prod.mk.injEq]
    constructor
    · rintro ⟨rfl, rfl⟩; exact ⟨h0, .inl (Nat.le_refl _)⟩
    · rintro ⟨h, h2 | ⟨_, h2⟩⟩
      · have : k = 0 := by omega
        subst this
        exact ⟨hz bs h, rfl⟩
      · cases h2
  rimI := fun bs => by
    rw [List.mem_singleton]
    exact ⟨fun e => e ▸ h0, hz bs⟩
  lat := fun bs h => nomatch h
  dn := fun _ _ h => h.elim
  len := rfl
theorem TBfs.has (I : TBfs D m ents rim later done N) (hu : ∀ bs k k', D bs k → D bs k' → k = k') {bs : List Bool} {k : Nat} (h : D bs k) : bs ∈ ents.map (·.1) ↔ (k ≤ m ∨ (k = m + 1 ∧ bs ∈ later)) := by
  rw [List.mem_map]
  constructor
  · rintro ⟨⟨b, k'⟩, hm, rfl⟩
    obtain ⟨h1, h2⟩ := (I.mem b k').mp hm
    rw [hu _ _ _ h h1]; exact h2
  · intro h2
    exact ⟨(bs, k), (I.mem bs k).mpr ⟨h, h2⟩, rfl⟩
theorem TBfs.add (I : TBfs D m ents rim later done N) (hu : ∀ bs k k', D bs k → D bs k' → k = k') {bs : List Bool} (h : D bs (m + 1)) (hn : bs ∉ ents.map (·.1)) : TBfs D m (ents ++ [(bs, m + 1)]) rim (later ++ [bs]) done N := by
  refine ⟨?_, fun b k => ?_, I.rimI, fun b hb => ?_, fun b hb hd cs hc hD => List.mem_append_left _ (I.dn b hb hd cs hc hD), rfl⟩
  · rw [List.map_append]
    refine List.nodup_append.mpr ⟨I.nod, by simp, fun a ha b hb => ?_⟩
    rw [List.map_cons, List.map_nil, List.mem_singleton] at hb
    rintro rfl
    rw [hb] at ha
    exact hn ha
  · rw [List.mem_append, I.mem, List.mem_singleton, Prod.mk.injEq, List.mem_append, List.mem_singleton]
    constructor
    · rintro (⟨h1, h2 | ⟨h2, h3⟩⟩ | ⟨rfl, rfl⟩)
      · exact ⟨h1, .inl h2⟩
      · exact ⟨h1, .inr ⟨h2, .inl h3⟩⟩
      · exact ⟨h, .inr ⟨rfl, .inr rfl⟩⟩
    · rintro ⟨h1, h2 | ⟨h2, h3 | h3⟩⟩
      · exact .inl ⟨h1, .inl h2⟩
      · exact .inl ⟨h1, .inr ⟨h2, h3⟩⟩
      · exact .inr ⟨h3, h2⟩
  · rcases List.mem_append.mp hb with hb | hb
    · exact I.lat b hb
    · rw [List.mem_singleton.mp hb]; exact h
theorem TBfs.more (I : TBfs D m ents rim later done N) {bs : List Bool} (h : ∀ cs ∈ N bs, D cs (m + 1) → cs ∈ later) : TBfs D m ents rim later (fun b => done b ∨ b = bs) N :=
  ⟨I.nod, I.mem, I.rimI, I.lat, fun b hb hd cs hc hD => by
    rcases hd with hd | rfl
    · exact I.dn b hb hd cs hc hD
    · exact h cs hc hD, rfl⟩
theorem TBfs.weak (I : TBfs D m ents rim later done N) {done' : List Bool → Prop} (h : ∀ b, done' b → done b) : TBfs D m ents rim later done' N := ⟨I.nod, I.mem, I.rimI, I.lat, fun b hb hd => I.dn b hb (h b hd), rfl⟩
theorem TBfs.step (I : TBfs D m ents rim later done N) (hd : ∀ b ∈ rim, done b) (hprev : ∀ bs k, D bs (k + 1) → ∃ cs, D cs k ∧ bs ∈ N cs) : TBfs D (m + 1) ents later [] (fun _ => False) N := by
  have full : ∀ bs, D bs (m + 1) → bs ∈ later := fun bs h => by
    obtain ⟨cs, h1, h2⟩ := hprev bs m h
    exact I.dn cs h1 (hd cs ((I.rimI cs).mpr h1)) bs h2 h
  refine ⟨I.nod, fun bs k => ?_, fun bs => ⟨I.lat bs, full bs⟩, fun _ h => (nomatch h), fun _ _ h => h.elim, rfl⟩
  rw [I.mem]
  constructor
  · rintro ⟨h1, h2 | ⟨h2, h3⟩⟩
    · exact ⟨h1, .inl (by omega)⟩
    · exact ⟨h1, .inl (by omega)⟩
  · rintro ⟨h1, h2 | ⟨_, h2⟩⟩
    · by_cases e : k = m + 1
      · subst e; exact ⟨h1, .inr ⟨rfl, full bs h1⟩⟩
      · exact ⟨h1, .inl (by omega)⟩
    · cases h2
/-- the rim is empty: all texts are met -/
theorem TBfs.fin (I : TBfs D m ents [] later done N) (hprev : ∀ bs k, D bs (k + 1) → ∃ cs, D cs k ∧ bs ∈ N cs) : ∀ bs k, D bs k → k < m := by
  intro bs k
  induction k generalizing bs with
  | zero =>
    intro h
    rcases Nat.eq_zero_or_pos m with e | e
    · rw [e] at I
      have := (I.rimI bs).mpr h
      cases this
    · exact e
  | succ k ih =>
    intro h
    obtain ⟨cs, h1, _⟩ := hprev bs k h
    have := ih cs h1
    by_cases e : k + 1 = m
    · rw [← e] at I
      have := (I.rimI bs).mpr h
      cases this
    · omega
end
/-- bits as a number -/
def toN : List Bool → Nat
  | [] => 0
  | b :: r => 2 * toN r + (if b then 1 else 0)
theorem toN_lt : ∀ bs : List Bool, toN bs < 2 ^ bs.length
  | [] => by decide
  | b :: r => by
    have := toN_lt r
    rw [List.length_cons, Nat.pow_succ]
    show 2 * toN r + (if b then 1 else 0) < _
    split <;> omega
theorem toN_inj : ∀ {as bs : List Bool}, as.length = bs.length → toN as = toN bs → as = bs
  | [], [], _, _ => rfl
  | [], _ :: _, h, _ => by simp at h
  | _ :: _, [], h, _ => by simp at h
  | a :: r, b :: t, h, e => by
    have e : 2 * toN r + (if a then 1 else 0) = 2 * toN t + (if b then 1 else 0) := e
    have h1 : a = b := by
      cases a <;> cases b <;> simp at e ⊢ <;> omega
    subst h1
    have e2 : r = t := toN_inj (by simpa using h) (by omega)
    rw [e2]
theorem texts_few {L : List (List Bool)} {m : Nat} (hn : L.Nodup) (hl : ∀ bs ∈ L, bs.length = m) : L.length ≤ 2 ^ m := by
  have h1 : (L.map toN).Nodup := by
    rw [List.nodup_iff_pairwise_ne, List.pairwise_map]
    refine List.Pairwise.imp_of_mem (fun {a b} ha hb hne e => hne (toN_inj ((hl a ha).trans (hl b hb).symm) e)) (List.nodup_iff_pairwise_ne.mp hn)
  have := nodup_lt (2 ^ m) (L.map toN) h1 fun x hx => by
    obtain ⟨bs, hb, rfl⟩ := List.mem_map.mp hx
    have := toN_lt bs
    rw [hl bs hb] at this; exact this
  rwa [List.length_map] at this
/-- the texts of all layings -/
theorem count_all {n : Nat} {es : List (Nat × Nat)} {c : Nat → Nat} {one : Nat → Int} (W : Web1 n es c one) {gs : List (Nat → Int)} (A : AllL n es gs) {L : List (List Bool)} (hn : L.Nodup) (hL : ∀ bs, bs ∈ L ↔ ∃ k, TxtD n es c one bs k) : L.length = gs.length := by
  have h1 : (gs.map (foldsL es c)).Nodup := by
    rw [List.nodup_iff_pairwise_ne, List.pairwise_map]
    refine List.Pairwise.imp_of_mem (fun {a b} ha hb ⟨z, hz, hd⟩ e => ?_) A.dis
    have := folds_shift W (A.ok a ha).1 (A.ok b hb).1 e z hz
    have h2 := (A.ok a ha).2
    have h3 := (A.ok b hb).2
    omega
  have hp : L.Perm (gs.map (foldsL es c)) := (List.perm_ext_iff_of_nodup hn h1).mpr fun bs => by
    rw [hL, List.mem_map]
    constructor
    · rintro ⟨k, h, l, _, rfl, _⟩
      obtain ⟨g, hg, hz⟩ := A.all (fun i => h i - h 0) (fun e he => by have := l e he; show absI (h e.1 - h 0 - (h e.2 - h 0)) = 1; rw [show h e.1 - h 0 - (h e.2 - h 0) = h e.1 - h e.2 by omega]; exact this) (by omega)
      exact ⟨g, hg, folds_congr W (-h 0) fun v hv => by rw [hz v hv]; omega⟩
    · rintro ⟨g, hg, rfl⟩
      obtain ⟨l, g0⟩ := A.ok g hg
      have e : foldsL es c (fun i => g i + one 0) = foldsL es c g := foldsL_shift (one 0)
      obtain ⟨k, hk⟩ := TxtD.ex W (h := fun i => g i + one 0) (fun e he => by have := l e he; show absI (g e.1 + one 0 - (g e.2 + one 0)) = 1; rw [show g e.1 + one 0 - (g e.2 + one 0) = g e.1 - g e.2 by omega]; exact this) (by show (one 0 - (g 0 + one 0)) % 2 = 0; rw [g0]; omega)
      rw [e] at hk
      exact ⟨k, hk⟩
  rw [hp.length_eq, List.length_map]
end Tr
end
section
set_option Elab.async false
set_option linter.all false
set_option maxRecDepth 100000
set_option maxHeartbeats 1000000
namespace Tr
open PySem PySem.Spec PyProof.Rows L2 Evl
/-! ### texts as keys, as items -/
def tx (bs : List Bool) : V := .str (foldT bs)
def kT (bs : List Bool) : Key := .inr (foldT bs)
theorem kT_inj {a b : List Bool} : kT a = kT b ↔ a = b := ⟨fun h => foldT_inj (Sum.inr.inj h), fun h => by rw [h]⟩
def encE (p : List Bool × Nat) : Key × V := (kT p.1, .int (p.2 : Int))
theorem valV_enc : ∀ (ents : List (List Bool × Nat)) (bs : List Bool), valV (ents.map encE) (kT bs) = (ents.find? fun p => decide (p.1 = bs)).map fun p => V.int (p.2 : Int)
  | [], _ => rfl
  | p :: r, bs => by
    rw [List.map_cons, List.find?_cons]
    by_cases h : p.1 = bs
    · rw [decide_eq_true h, valV_pos (show (encE p).1 = kT bs by show kT p.1 = kT bs; rw [h])]; rfl
    · rw [decide_eq_false h, valV_neg (fun q => h (kT_inj.mp q))]
      exact valV_enc r bs
theorem enc_some {ents : List (List Bool × Nat)} {bs : List Bool} : (valV (ents.map encE) (kT bs)).isSome = decide (bs ∈ ents.map (·.1)) := by
  rw [valV_enc, Option.isSome_map, Bool.eq_iff_iff, decide_eq_true_eq, List.find?_isSome, List.mem_map]
  constructor
  · rintro ⟨p, hp, e⟩
    exact ⟨p, hp, of_decide_eq_true e⟩
  · rintro ⟨p, hp, e⟩
    exact ⟨p, hp, decide_eq_true e⟩
theorem enc_val {ents : List (List Bool × Nat)} (hn : (ents.map (·.1)).Nodup) {bs : List Bool} {k : Nat} (h : (bs, k) ∈ ents) : valV (ents.map encE) (kT bs) = some (.int (k : Int)) := by
  rw [valV_enc]
  have hs : (ents.find? fun p => decide (p.1 = bs)).isSome := by
    rw [List.find?_isSome]; exact ⟨_, h, decide_eq_true rfl⟩
  obtain ⟨p, hp⟩ := Option.isSome_iff_exists.mp hs
  have h0 : decide (p.1 = bs) = true := List.find?_some (p := fun p : List Bool × Nat => decide (p.1 = bs)) hp
  have h1 := of_decide_eq_true h0
  have h2 := List.mem_of_find?_eq_some hp
  have h3 : p = (bs, k) := by
    obtain ⟨i, hi, ei⟩ := List.mem_iff_getElem.mp h2
    obtain ⟨j, hj, ej⟩ := List.mem_iff_getElem.mp h
    have : i = j := by
      have hw := List.pairwise_iff_getElem.mp (List.nodup_iff_pairwise_ne.mp hn)
      rcases Nat.lt_trichotomy i j with q | q | q
      · exact absurd (by rw [List.getElem_map, List.getElem_map, ei, ej, h1]) (hw i j (by rw [List.length_map]; exact hi) (by rw [List.length_map]; exact hj) q)
      · exact q
      · exact absurd (by rw [List.getElem_map, List.getElem_map, ei, ej, h1]) (hw j i (by rw [List.length_map]; exact hj) (by rw [List.length_map]; exact hi) q)
    subst this
    rw [← ei, ej]
  rw [hp, h3]; rfl
theorem enc_put {ents : List (List Bool × Nat)} {bs : List Bool} {k : Nat} (h : bs ∉ ents.map (·.1)) : putK (ents.map encE) (kT bs) (.int (k : Int)) = (ents ++ [(bs, k)]).map encE := by
  have hv : valV (ents.map encE) (kT bs) = none := by
    have := enc_some (ents := ents) (bs := bs)
    rw [decide_eq_false h] at this
    cases q : valV (ents.map encE) (kT bs) with
    | none => rfl
    | some x => rw [q] at this; cases this
  rw [putK_new _ hv, List.map_append]; rfl
theorem foldT_ok (bs : List Bool) : PyData.strOk (foldT bs) = true := by
  show (foldT bs).cps.all (· < 0x110000) = true
  show ((bs.map fun b => if b then 77 else 86).toArray).all (· < 0x110000) = true
  rw [List.all_toArray, List.all_map, List.all_eq_true]
  intro b _
  cases b <;> decide
theorem txt_canLay : ∀ l : List (List Bool), PyData.canLayAll0 (l.map fun b => PyData.str (foldT b)) = true
  | [] => rfl
  | _ :: r => by simp [PyData.canLayAll0, PyData.canLay0, txt_canLay r, foldT_ok]
theorem txt_depth : ∀ l : List (List Bool), PyData.depthAll (l.map fun b => PyData.str (foldT b)) = 0
  | [] => rfl
  | _ :: r => by simp [PyData.depthAll, PyData.depth, txt_depth r]
theorem txt_shaped (l : List (List Bool)) : SeqAt.shaped (.list (l.map fun b => PyData.str (foldT b))) = true := by
  simp [SeqAt.shaped, PyData.canLay0, PyData.depth, txt_canLay, txt_depth]
section
variable {K : PySem.W.Frag} {S H : Hp} {σ : L2.St} {ta tl td te : TE} {g : TG} {ts : TS} {D : Ends}
theorem dpTx (l : List (List Bool)) : DpAll K H (l.map tx) (l.map fun b => PyData.str (foldT b)) := by
  induction l with
  | nil => exact .nil
  | cons n r ih => exact .cons (.str _) ih
theorem ev_neNilT {v : V} {l : List (List Bool)} (ha : Ev ta σ S v) (h : LstA S v (l.map tx)) : Ev (tOp (rNeD K) ta (tLst tNil)) σ S (.bl (!l.isEmpty)) := by
  obtain ⟨a, rfl, h⟩ := h
  refine ev_opL ha (el_lst ea_nil (by decide)) fun p H1 hp e => fun H2 e2 Q q => ⟨.list (l.map fun b => PyData.str (foldT b)), .list [], .lst (ex_l e2 (ex_l e (sq_of h))) (dpTx l), .lst (sq_of (e2 _ _ hp)) .nil, txt_shaped l, PySem.W.ke_shaped_ints [], ?_⟩
  rw [eqv_nil, List.isEmpty_map]; exact q H2 (Ex.refl H2)
theorem turns_tx {v : V} {l : List (List Bool)} {j : Nat} (h : Ev tl σ H v) (e : Ex S H) (hx : LstA S v (l.map tx)) : TurnsAt (iList K tl) (gName j) σ S H l.length fun i σ' => σ'.set j (some (tx (l.getD i []))) := by
  obtain ⟨a, rfl, ha⟩ := hx
  have := turns_listAt (K := K) (a := a) (xs := l.map tx) (g := gName j) (u := fun i σ' => σ'.set j (some (tx (l.getD i [])))) h e (sq_of ha) (fun i x H σ' Q hx _ q => by
    rw [List.getElem?_map] at hx
    cases hb : l[i]? with
    | none => rw [hb] at hx; cases hx
    | some b =>
      rw [hb] at hx
      have e2 : l.getD i [] = b := by rw [List.getD_eq_getElem?_getD, hb]; rfl
      have := q H (Ex.refl _)
      rw [e2] at this
      cases hx
      exact this)
  rw [List.length_map] at this
  exact this
theorem turns_natsT {xs : List Nat} {j : Nat} (h : EvG tl σ S fun v S' => TupA S' v (nV xs)) : Turns (iTup K tl) (gName j) σ S xs.length fun i σ' => σ'.set j (some (.int (xs.getD i 0 : Int))) :=
  turns_newT (K := K) h fun v S1 e ⟨a, ev, ha⟩ => ⟨a, nV xs, ev, st_of ha, nV_len, fun i x H σ' Q hx e q => by
    unfold nV at hx
    rw [List.getElem?_map] at hx
    cases hb : xs[i]? with
    | none => rw [hb] at hx; cases hx
    | some b =>
      rw [hb] at hx
      have e2 : xs.getD i 0 = b := by rw [List.getD_eq_getElem?_getD, hb]; rfl
      have := q H (Ex.refl _)
      rw [e2] at this
      cases hx
      exact this⟩
/-- a loop over a range with a step -/
theorem itc_go {lo st : Int} {n j : Nat} {tb : TS} (Pv : Nat → L2.St → Hp → Prop) (h0 : Pv 0 σ H)
    (hs : ∀ i σ' H', i < n → Pv i σ' H' → tb { D with nx := Pv (i + 1), ct := Pv (i + 1), bk := D.nx } (σ'.set j (some (.int (lo + (i : Nat) * st)))) H') (hd : ∀ σ' H', Pv n σ' H' → D.nx σ' H') :
    ∃ W : Nat → Nat → L2.St → Hp → Prop, (∃ m, W 0 m σ H) ∧ ∀ i m σ H, W i m σ H →
  ((Itc lo st n).stop i H ∧ D.nx σ H) ∨ ((Itc lo st n).go i H ∧ ∃ N : L2.St → Hp → Prop, (∀ σ' H', N σ' H' → ∃ m', m' < m ∧ W (i + 1) m' σ' H') ∧ ∀ x H', (Itc lo st n).yld i H x H' → gName j x σ H' fun σ2 H2 => tb { D with nx := N, ct := N, bk := D.nx } σ2 H2) := by
  refine ⟨fun i m σ H => m = n - i ∧ i ≤ n ∧ Pv i σ H, ⟨n, by simp, Nat.zero_le _, h0⟩, ?_⟩
  rintro i m σ' H' ⟨rfl, hi, p⟩
  by_cases hlt : i < n
  · refine .inr ⟨hlt, Pv (i + 1), fun σ2 H2 p2 => ⟨n - (i + 1), by omega, rfl, hlt, p2⟩, fun x H2 y => ?_⟩
    obtain ⟨rfl, rfl⟩ := y
    exact hs i σ' H2 hlt p
  · have ei : i = n := by omega
    subst ei
    exact .inl ⟨Nat.le_refl _, hd σ' H' p⟩
/-- over the keys of a locked dict -/
theorem turns_keys {d : Addr} {od : Obj} {kvs : List (Key × V)} {u : Nat → L2.St → L2.St} (h : Ev td σ S (.ref d)) (hd : S d = some (.frz od (.dK kvs))) (hu : ∀ i k v (H : Hp) (σ' : L2.St) (Q : L2.St → Hp → Prop), kvs[i]? = some (k, v) → (∀ H3, Ex H H3 → Q (u i σ') H3) → g (kV k) σ' H Q) : Turns (iKeys td) g σ S kvs.length u := fun H e R r =>
  h H e _ fun H1 e1 => ⟨d, od, rfl, .inl ⟨kvs, e1 _ _ (e _ _ hd), r (Itk d od kvs) (fun H' => H' d = some (.frz od (.dK kvs))) S H1 (Gr.of_ex e e1) (fun H' q => q _ _ hd) (fun i H' hi q => ⟨q, hi⟩) (fun H' q => ⟨q, Nat.le_refl _⟩) fun i H' x H'' σ' Q hi q y k => by
    obtain ⟨e2, key, v, hk, rfl⟩ := y
    subst e2
    exact hu i key v H'' σ' Q hk k⟩⟩
end
/-! ### the shifts -/
def shf (i : Nat) : Int := 0 - 60 + (i : Nat) * 2
def valS (n : Nat) (δ : Nat → Int) (s : Int) : Int := (sumA n δ s).fdiv 2
def stK (n : Nat) (δ : Nat → Int) (m : Nat) : List (Key × V) := (List.range m).map fun i => (.inl (shf i), .int (valS n δ (shf i)))
theorem stK_len {n : Nat} {δ : Nat → Int} {m : Nat} : (stK n δ m).length = m := by unfold stK; rw [List.length_map, List.length_range]
theorem stK_get {n : Nat} {δ : Nat → Int} {m i : Nat} (hi : i < m) : (stK n δ m)[i]? = some (.inl (shf i), .int (valS n δ (shf i))) := by
  unfold stK
  rw [List.getElem?_map, List.getElem?_range hi]; rfl
theorem shf_inj {i j : Nat} (h : shf i = shf j) : i = j := by unfold shf at h; omega
theorem stK_val {n : Nat} {δ : Nat → Int} (s : Int) : ∀ m, valV (stK n δ m) (.inl s) = if ∃ i, i < m ∧ shf i = s then some (.int (valS n δ s)) else none
  | 0 => by rw [if_neg (by rintro ⟨i, h, _⟩; omega)]; rfl
  | m + 1 => by
    have e : stK n δ (m + 1) = stK n δ m ++ [(.inl (shf m), .int (valS n δ (shf m)))] := by
      unfold stK
      rw [List.range_succ, List.map_append]; rfl
    have hap : ∀ (l : List (Key × V)) (p : Key × V) (k : Key), valV (l ++ [p]) k = (valV l k).or (valV [p] k) := fun l p k => by
      unfold valV
      rw [List.find?_append]
      cases l.find? fun kv => decide (kv.1 = k) with
      | none => rfl
      | some x => rfl
    rw [e, hap, stK_val s m]
    by_cases h1 : ∃ i, i < m ∧ shf i = s
    · obtain ⟨i, hi, ei⟩ := h1
      rw [if_pos ⟨i, hi, ei⟩, if_pos ⟨i, by omega, ei⟩]; rfl
    · rw [if_neg h1]
      by_cases h2 : shf m = s
      · rw [if_pos ⟨m, by omega, h2⟩, valV_pos (by rw [h2]), h2]; rfl
      · rw [if_neg (by
          rintro ⟨i, hi, ei⟩
          by_cases q : i = m
          · exact h2 (q ▸ ei)
          · exact h1 ⟨i, by omega, ei⟩), valV_neg (fun q => h2 (Sum.inl.inj q))]; rfl
theorem stK_put {n : Nat} {δ : Nat → Int} {m : Nat} : putK (stK n δ m) (.inl (shf m)) (.int (valS n δ (shf m))) = stK n δ (m + 1) := by
  rw [putK_new _ (by rw [stK_val, if_neg (by rintro ⟨i, hi, ei⟩; have := shf_inj ei; omega)])]
  unfold stK
  rw [List.range_succ, List.map_append]; rfl
theorem even_fdiv {x : Int} {k : Int} (h : x = 2 * k) : x.fdiv 2 = k := by
  rw [Int.fdiv_eq_ediv_of_nonneg _ (by decide)]; omega
structure Med (n : Nat) (δ : Nat → Int) (t : Int) (k : Nat) : Prop where
  med : IsMed n δ t
  sum : sumA n δ t = 2 * (k : Int)
  even : ∀ i, i < n → δ i % 2 = 0
  bd : ∀ i, i < n → -60 ≤ δ i ∧ δ i ≤ 60
section
variable {n : Nat} {δ : Nat → Int} {t : Int} {k : Nat}
theorem Med.j0 (M : Med n δ t k) : ∃ j, j < 61 ∧ shf j = t := by
  obtain ⟨i, hi, ei⟩ := M.med.at_
  have h1 := M.even i hi
  have h2 := M.bd i hi
  refine ⟨((t + 60) / 2).toNat, ?_, ?_⟩
  · omega
  · unfold shf; omega
theorem Med.evS (M : Med n δ t k) (j : Nat) : sumA n δ (shf j) % 2 = 0 := sum_even n fun i hi => absI_even (by
  have := M.even i hi
  unfold shf
  omega)
theorem Med.valT (M : Med n δ t k) : valS n δ t = k := even_fdiv M.sum
theorem Med.ge (M : Med n δ t k) (j : Nat) : (k : Int) ≤ valS n δ (shf j) := by
  have h1 := M.med.min (shf j)
  rw [sumS_map, sumS_map, M.sum] at h1
  have h2 := M.evS j
  unfold valS
  rw [even_fdiv (k := sumA n δ (shf j) / 2) (by omega)]
  omega
theorem Med.gt (M : Med n δ t k) (j : Nat) (h : shf j < t) : (k : Int) < valS n δ (shf j) := by
  have h1 := M.med.least (shf j) h
  rw [sumS_map, sumS_map, M.sum] at h1
  have h2 := M.evS j
  unfold valS
  rw [even_fdiv (k := sumA n δ (shf j) / 2) (by omega)]
  omega
def valZ (n : Nat) (δ : Nat → Int) : List Int := (List.range 61).map fun i => valS n δ (shf i)
theorem stK_vals : (stK n δ 61).map (·.2) = iV (valZ n δ) := by
  unfold stK valZ iV
  rw [List.map_map, List.map_map]; rfl
theorem Med.minZ (M : Med n δ t k) {m : Int} (hm : m ∈ valZ n δ) (hl : ∀ j ∈ valZ n δ, m ≤ j) : m = k := by
  obtain ⟨j, hj, ej⟩ := M.j0
  have h1 := hl (valS n δ (shf j)) (List.mem_map.mpr ⟨j, List.mem_range.mpr hj, rfl⟩)
  rw [ej, M.valT] at h1
  obtain ⟨i, _, rfl⟩ := List.mem_map.mp hm
  have := M.ge i
  omega
def bests (n : Nat) (δ : Nat → Int) (k : Nat) : List Int := ((List.range 61).filter fun i => decide (V.int (valS n δ (shf i)) = V.int (k : Int))).map shf
theorem Med.best (M : Med n δ t k) {m : Int} (hm : m ∈ bests n δ k) (hl : ∀ j ∈ bests n δ k, m ≤ j) : m = t := by
  obtain ⟨j, hj, ej⟩ := M.j0
  have h1 := hl (shf j) (List.mem_map.mpr ⟨j, List.mem_filter.mpr ⟨List.mem_range.mpr hj, decide_eq_true (by rw [ej, M.valT])⟩, rfl⟩)
  obtain ⟨i, hi, rfl⟩ := List.mem_map.mp hm
  have h2 := of_decide_eq_true (List.mem_filter.mp hi).2
  have h3 : valS n δ (shf i) = k := by injection h2
  by_cases q : shf i < t
  · have := M.gt i q; omega
  · omega
theorem Med.bests_pos (M : Med n δ t k) : 0 < (bests n δ k).length := by
  obtain ⟨j, hj, ej⟩ := M.j0
  exact List.length_pos_of_mem (List.mem_map.mpr ⟨j, List.mem_filter.mpr ⟨List.mem_range.mpr hj, decide_eq_true (by rw [ej, M.valT])⟩, rfl⟩)
end
end Tr
end
section
set_option Elab.async false
set_option linter.all false
set_option maxRecDepth 100000
set_option maxHeartbeats 4000000
namespace Tr
open PySem PySem.Spec PyProof.Rows L2 Evl
theorem minK (K : PySem.W.Frag) {X : Cx} (hc : X.calm = true := by rfl) (h : X.K = K := by rfl) : CallR X (.builtin "min") (rMin K) := h ▸ cr_min hc
/-- the law's promise; P: the table of _law_all's code object -/
def sp_law (K : PySem.W.Frag) : Sp := fun vs H Q _ => ∃ (a : Addr) (ns : List Int), vs = [.ref a] ∧ SqL K H a (ns.map V.int) ∧ ns.length ≤ 63 ∧ H (He.cT K ("_law_all", none)).2 = some (.tbl #[]) ∧ ∀ H', Q (.bl true) H'
theorem LayP.ok {n : Nat} {es : List (Nat × Nat)} {ht : Int} {h : Nat → Int} (L : LayP n es ht 30 h) : LayOk n es h := ⟨fun i hi => by have := L.bd i hi; omega, L.lay⟩
section
variable {K : PySem.W.Frag} {S H : Hp} {σ : L2.St} {td ty : TE} {D : Ends} {t : TA} {g : TG} {tb : TS}
theorem x_for3 (k : t σ H fun vs H1 => ∃ (i j c : Int) (n : Nat), vs = [.int i, .int j, .int c] ∧ RgC i j c n ∧ ∃ W : Nat → Nat → L2.St → Hp → Prop, (∃ m, W 0 m σ H1) ∧ ∀ i' m σ H, W i' m σ H →
  ((Itc i c n).stop i' H ∧ D.nx σ H) ∨ ((Itc i c n).go i' H ∧ ∃ N : L2.St → Hp → Prop, (∀ σ' H', N σ' H' → ∃ m', m' < m ∧ W (i' + 1) m' σ' H') ∧ ∀ x H', (Itc i c n).yld i' H x H' → g x σ H' fun σ2 H2 => tb { D with nx := N, ct := N, bk := D.nx } σ2 H2)) : tFor (iRng3 t) g tb D σ H := k
theorem ev_dgetR {d : Addr} {kvs : List (Key × V)} {k : Key} {v : V} (hd : Ev td σ S (.ref d)) (hy : Ev ty σ S (kV k)) (h : Rd S d (.dK kvs)) (hv : valV kvs k = some v) : Ev (tDGet td ty) σ S v := fun H e Q q =>
  hd H e _ fun H1 e1 => hy H1 (e.trans e1) _ fun H2 e2 => ⟨d, v, rfl, .inl ⟨kvs, k, ex_rd (e.trans (e1.trans e2)) h, rfl, hv.symm⟩, q H2 (e1.trans e2)⟩
theorem ev_minV {n : Nat} {δ : Nat → Int} {tt : Int} {k : Nat} (M : Med n δ tt k) {d : Addr} (hd : Ev td σ S (.ref d)) (h : Rd S d (.dK (stK n δ 61))) : Ev (tMinV td) σ S (.int (k : Int)) := fun H e Q q =>
  hd H e _ fun H1 e1 => ⟨d, stK n δ 61, valZ n δ, rfl, ex_rd (e.trans e1) h, stK_vals, by unfold valZ; rw [List.length_map, List.length_range]; decide, fun m hm hl => by rw [M.minZ hm hl]; exact q H1 e1⟩
theorem ev_lenD {d : Addr} {kvs : List (Key × V)} (hd : Ev td σ S (.ref d)) (h : S d = some (.dK kvs)) : Ev (tCB rLenD (tCons td tNil)) σ S (.int (kvs.length : Int)) := ev_cb (ea_cons hd ea_nil) fun H1 e1 Q q => ⟨d, kvs, rfl, e1 _ _ h, q H1 (Ex.refl H1)⟩
theorem apart_val {n : Nat} {one oth : Nat → Int} {s : Int} : (sumD n one fun i => oth i + s).fdiv 2 = valS n (fun i => one i - oth i) s := by
  unfold sumD valS sumA
  congr 3
  funext i
  show absI (one i - (oth i + s)) = absI (one i - oth i - s)
  congr 1; omega
theorem shift_lay {v : V} {n : Nat} {h : Nat → Int} {te : TE} {s : Int} {j i : Nat} (hn : n ≤ 60) (hL : LayV S v n h) (hv : Ev te σ S v) (hi : ∀ x y, (((wipe σ [j]).set j x)[i]? = y) → σ[i]? = y) (hs : ∀ x, ((wipe σ [j]).set j x)[i]? = some (some (.int s))) (hj : j < σ.length) :
    EvG (tCB (rTupOf K) (tCons (tLc (iTup K te) (gName j) tYes (tOp (rI0 fun i j => .int (i + j)) (tVar j) (tVar i)) [j]) tNil)) σ S fun r S' => LayV S' r n fun z => h z + s := by
  refine EvG.imp (eg_tupOf (lc_map (n := n) (fun z => V.int (h z + s)) (turns_lay hv hL) (fun i _ => set1_wipe _ _ _) (by omega) (fun z S1 hz e => ev_op (x := .int (h z)) (y := .int s) (ev_var ?_) (ev_var (hs _)) rv_I0))) fun r S' _ hr => ?_
  · have hw : j < (wipe σ [j]).length := by rw [wipe_length]; exact hj
    rw [List.getElem?_set_self hw]
  · unfold LayV
    rw [iV_tab]; exact hr
end
section
variable {P : Program} {w : World} {K : PySem.W.Frag} {mg : Str → Option Value} {base : Heap}
theorem ok_law (T : Tx K mg) (TB : LamX.TabB base mg (He.cT K ("_law_all", none)).1 (He.cT K ("_law_all", none)).2) {fd : FuncData} (F : FunD K "law" "law" (defArgs s_law) (defBody s_law) (defScope s_law) [] [] (He.ga K "law") fd) : FnOk P w K mg base CX0 10 (He.ga K "law") fd ["_law_script"] (sp_law K) := by
  refine F.ok sc_law (fun vs H Q E h => ?_) (fun cdv A outer s H vs Q E hr h => ?_)
  · obtain ⟨a, ns, rfl, _⟩ := h
    rfl
  suffices hh : ∃ t, PSs (cxOf CX0 P w K mg base N_law "law" (defScope s_law) (He.ga K "law") cdv A outer s H E).nox (defBody s_law) t ∧ t { nx := fun _ H' => Q .non H', rt := Q } (start N_law vs) H from let ⟨t, h1, h2⟩ := hh; ⟨t, h1.nox, h2⟩
  obtain ⟨a, ns, rfl, hsc, hns, hPt, hq⟩ := h
  refine ⟨_, (pss_cons (ps_set (i := 1) sc_law.nd rfl (.inl rfl) (pe_lst (pa_cons (pv 0) (pa_cons pe_int (pa_cons pe_int (pa_cons pe_int pa_nil))))))
    (pss_cons (ps_set (i := 2) sc_law.nd rfl (.inl rfl) (pcall (ok__law_web T) (hr.mono (by decide)) (pa_cons (pv 1) (pa_cons pe_int pa_nil))))
    (pss_cons (ps_par (i := 3) (j := 4) rfl sc_law.nd rfl rfl (by decide) rfl rfl (pa_cons (pcall (ok__law_laying T) (hr.mono (by decide)) (pa_cons (pv 1) (pa_cons (pv 2) (pa_cons pe_int pa_nil)))) (pa_cons (pcall (ok__law_laying T) (hr.mono (by decide)) (pa_cons (pv 1) (pa_cons (pv 2) (pa_cons pe_int pa_nil)))) pa_nil)) (by rfl))
    (pss_cons (ps_par (i := 5) (j := 6) rfl sc_law.nd rfl rfl (by decide) rfl rfl (pa_cons (pcall (ok_folds T) (hr.mono (by decide)) (pa_cons (pv 2) (pa_cons (pv 3) pa_nil))) (pa_cons (pcall (ok_folds T) (hr.mono (by decide)) (pa_cons (pv 2) (pa_cons (pv 4) pa_nil))) pa_nil)) (by rfl))
    (pss_cons (ps_par3 (i := 7) (j := 8) (l := 9) rfl sc_law.nd rfl rfl rfl (by decide) (by decide) (by decide) rfl rfl rfl (pa_cons (pe_disp (pps_cons (pv 5) pe_int pps_nil) (by rfl) (by rfl) (by simp) (by decide)) (pa_cons (pe_lst (pa_cons (pv 5) pa_nil)) (pa_cons pe_int pa_nil))) (by rfl))
    (pss_cons (ps_while PassesOwn.never (pt_cmpR (neDK K hr.units) (pv 8) (pe_lst pa_nil) (nomark _))
      (pss_cons (ps_par (i := 9) (j := 10) rfl sc_law.nd rfl rfl (by decide) rfl rfl (pa_cons (pe_op op_add (pv 9) pe_int) (pa_cons (pe_lst pa_nil) pa_nil)) (by rfl))
    (pss_cons (ps_for PassesOwn.never rfl (piLK K (pv 8)) (pg_name (i := 11) sc_law.nd rfl (Or.inl rfl))
      (pss_one (ps_for PassesOwn.never rfl (piTK K (pcall (ok_open_faces T) (hr.mono (by decide)) (pa_cons (pv 2) (pa_cons (pv 11) pa_nil)))) (pg_name (i := 12) sc_law.nd rfl (Or.inl rfl))
      (pss_cons (ps_set (i := 13) sc_law.nd rfl (.inl rfl) (pcall (ok_turn T) (hr.mono (by decide)) (pa_cons (pv 2) (pa_cons (pv 11) (pa_cons (pv 12) pa_nil)))))
    (pss_one (ps_if (pt_cmp (pc_dnotin (hu_of hr) (pv 13) (pv 7)))
      (pss_cons (ps_dput (hu_of hr) (pv 7) (pv 13) (pv 9) rfl)
    (pss_one (ps_expr (pe_bm PySem.F.plainAttrs_list PySem.F.slot_list_append PySem.F.type_list_append mt_append (pv 10) (pa_cons (pv 13) pa_nil)))))
      pss_nil))))))
    (pss_one (ps_set (i := 8) sc_law.nd rfl (.inl rfl) (pv 10))))))
    (pss_cons (ps_if (PW.pt (pw_or (pt_cmp (pc_dnotin (hu_of hr) (pv 6) (pv 7))) (pw_or1 (pt_not (pt_val (pcall (ok__law_alike T) (hr.mono (by decide)) (pa_cons (pcall (ok_fewest_turns T) (hr.mono (by decide)) (pa_cons (pv 2) (pa_cons (pv 5) (pa_cons (pv 6) pa_nil)))) (pa_cons (pe_dget (hu_of hr) (pv 7) (pv 6) (fun _ _ => rfl)) pa_nil))))))))
      (pss_one (ps_ret pe_bl))
      pss_nil)
    (pss_cons (ps_if (pt_not (pt_val (pcall (ok__law_alike T) (hr.mono (by decide)) (pa_cons (pcall (ok_shift_distance T) (hr.mono (by decide)) (pa_cons (pv 2) (pa_cons (pv 3) (pa_cons (pv 4) pa_nil)))) (pa_cons (pe_dget (hu_of hr) (pv 7) (pv 6) (fun _ _ => rfl)) pa_nil)))))
      (pss_one (ps_ret pe_bl))
      pss_nil)
    (pss_cons (ps_set (i := 14) sc_law.nd rfl (.inr rfl) pe_dnewK)
    (pss_cons (ps_for PassesOwn.never rfl (pi_range3 (by rfl) T.b_range (pa_cons (pe_op op_sub pe_int pe_int) (pa_cons pe_int (pa_cons pe_int pa_nil)))) (pg_name (i := 15) sc_law.nd rfl (Or.inr rfl))
      (pss_one (ps_dput (hu_of hr) (pv 14) (pv 15) (pcall (ok__law_apart T) (hr.mono (by decide)) (pa_cons (pv 3) (pa_cons (pe_callTy (tupOfK K) (by rfl) T.b_tuple (by decide +kernel) (pa_cons (pe_lc (own := [("_law_height", 17)]) (g := (gName 17)) rfl sc_law.nd (piTK K (pv 4)) (blkOk_by (own := [("_law_height", 17)]) (N := N_law) (sc := defScope s_law) (by decide +kernel)) (fun _ _ _ _ _ => (pg_name (i := 17) sc_law.nd rfl (by first | exact Or.inl rfl | exact Or.inr rfl))) (fun _ _ _ _ _ => pts_nil) (fun _ _ _ _ _ => (pe_op op_add (pv 17) (pv 15)))) pa_nil)) pa_nil))) rfl)))
    (pss_cons (ps_set (i := 16) sc_law.nd rfl (.inl rfl) (pe_callB (minK K) (by rfl) T.b_min (by decide +kernel) (pa_cons (pe_lock (pe_lc (own := [("_law_shift", 15)]) (g := (gName 15)) rfl sc_law.nd (pi_keys (pv 14)) (blkOk_by (own := [("_law_shift", 15)]) (N := N_law) (sc := defScope s_law) (by decide +kernel)) (fun _ _ _ _ _ => (pg_name (i := 15) sc_law.nd rfl (by first | exact Or.inl rfl | exact Or.inr rfl))) (fun _ _ _ _ _ => (pts_one (pt_cmpR op_eq (pe_dget (hu_of hr) (pv 14) (pv 15) (fun _ _ => rfl)) (pe_minV rfl (by rfl) T.b_min (pv 14)) (nomark _)))) (fun _ _ _ _ _ => (pv 15)))) pa_nil)))
    (pss_cons (ps_if (PW.pt (pw_or (pt_not (pt_val (pcall (ok__law_alike T) (hr.mono (by decide)) (pa_cons (pcall (ok_best_shift T) (hr.mono (by decide)) (pa_cons (pv 2) (pa_cons (pv 3) (pa_cons (pv 4) pa_nil)))) (pa_cons (pv 16) pa_nil))))) (pw_or1 (pt_cmpR op_ne (pe_minV rfl (by rfl) T.b_min (pv 14)) (pe_dget (hu_of hr) (pv 7) (pv 6) (fun _ _ => rfl)) (nomark _)))))
      (pss_one (ps_ret pe_bl))
      pss_nil)
    (pss_one (ps_ret (pe_and (pe_cmpR op_eq (pcall (ok_distance T) (hr.mono (by decide)) (pa_cons (pv 2) (pa_cons (pv 3) (pa_cons (pcall (ok_moved T) (hr.mono (by decide)) (pa_cons (pv 2) (pa_cons (pv 4) (pa_cons (pv 16) pa_nil)))) pa_nil)))) (pe_dget (hu_of hr) (pv 7) (pv 6) (fun _ _ => rfl)) (nomark _)) (pe_one (pe_cmpR op_eq (pe_callB call_lenD (by rfl) T.b_len (by decide +kernel) (pa_cons (pv 7) pa_nil)) (pe_callB (lenK K) (by rfl) T.b_len (by decide +kernel) (pa_cons (pcall (ok__law_all T TB) (hr.mono (by decide)) (pa_cons (pv 2) (pa_cons pe_int (pa_cons pe_int pa_nil)))) pa_nil)) (nomark _)))))))))))))))))), ?_⟩
  refine x_seq (x_asg (x_lst (x_cons (x_var (v := .ref a) rfl (x_cons (x_c (x_cons (x_c (x_cons (x_c (x_nil ⟨by show 4 ≤ sizeLine; decide, fun r hr0 => ?_⟩)))))))))))
  have hat : RowAt (upd H r (.lst [.ref a, .int 0, .int 5444, .int 0])) r a := ⟨0, 5444, 0, upd_same, Int.le_refl _⟩
  have g0 : Gr [r] H H H (upd H r (.lst [.ref a, .int 0, .int 5444, .int 0])) := Gr.lay (Ex.refl H) hr0
  have R0 : Row K H (upd H r (.lst [.ref a, .int 0, .int 5444, .int 0])) r a ns := ⟨g0.i, hr0, hsc, hat⟩
  have hP0 : upd H r (.lst [.ref a, .int 0, .int 5444, .int 0]) (He.cT K ("_law_all", none)).2 = some (.tbl #[]) := Ex.new hr0 _ _ hPt
  have hPr : (He.cT K ("_law_all", none)).2 ≠ r := fun e => by rw [e, hr0] at hPt; cases hPt
  generalize upd H r (.lst [.ref a, .int 0, .int 5444, .int 0]) = H0 at g0 R0 hP0 ⊢
  dsimp only
  show tSeq _ _ _ [some (.ref a), some (.ref r), none, none, none, none, none, none, none, none, none, none, none, none, none, none, none, none] H0
  refine x_seq (x_asg ?_)
  refine er_call (K := K) (σ := [some (.ref a), some (.ref r), none, none, none, none, none, none, none, none, none, none, none, none, none, none, none, none]) (S := H) (H := H0) (vs := [.ref r, .int 7]) R0 (ea_cons (ev_var rfl) (ea_cons ev_c ea_nil)) (fun H1 e1 R1 => sp_lweb_ok R1) _ fun wv S1 H1 g1 R1 ⟨n, es, c, hW1, ok, hn7, hfew⟩ => ?_
  dsimp only
  show tSeq _ _ _ [some (.ref a), some (.ref r), some wv, none, none, none, none, none, none, none, none, none, none, none, none, none, none, none] H1
  refine x_seq (x_par (x_cons ?_))
  refine er_call (K := K) (σ := [some (.ref a), some (.ref r), some wv, none, none, none, none, none, none, none, none, none, none, none, none, none, none, none]) (S := S1) (H := H1) (vs := [.ref r, wv, .int 0]) R1 (ea_cons (ev_var rfl) (ea_cons (ev_var rfl) (ea_cons ev_c ea_nil))) (fun H2 e2 R2 => sp_llay_ok (ht := 0) R2 hW1 ok hn7 (by decide) (by decide)) _ fun l1 S2 H2 g2 R2 ⟨one, hL1, hP1⟩ => x_cons ?_
  refine er_call (K := K) (σ := [some (.ref a), some (.ref r), some wv, none, none, none, none, none, none, none, none, none, none, none, none, none, none, none]) (S := S2) (H := H2) (vs := [.ref r, wv, .int 2]) R2 (ea_cons (ev_var rfl) (ea_cons (ev_var rfl) (ea_cons ev_c ea_nil))) (fun H3 e3 R3 => sp_llay_ok (ht := 2) R3 (hW1.mono g2.s) ok hn7 (by decide) (by decide)) _ fun l2 S3 H3 g3 R3 ⟨oth, hL2, hP2⟩ => x_nil ⟨_, _, rfl, ?_⟩
  have hP3 : H3 (He.cT K ("_law_all", none)).2 = some (.tbl #[]) := g3.h _ _ (by simp [hPr]) (g2.h _ _ (by simp [hPr]) (g1.h _ _ (by simp [hPr]) hP0))
  have hW3 := (hW1.mono g2.s).mono g3.s
  have hL13 := hL1.mono g3.s
  have x3 := R3.ex
  have hPS3 : S3 (He.cT K ("_law_all", none)).2 = some (.tbl #[]) := g3.s _ _ (g2.s _ _ (g1.s _ _ hPt))
  clear g1 g2 g3 g0 R0 R1 R2 hW1 hL1 hsc hr0 hat
  dsimp only
  show tSeq _ _ _ [some (.ref a), some (.ref r), some wv, some l1, some l2, none, none, none, none, none, none, none, none, none, none, none, none, none] H3
  have hn0 := ok.form.lo
  have hedge := ok.form.edges
  have hE : ∀ e ∈ es, e.1 < n ∧ e.2 < n := fun e he => by have := ok.form.ok e he; omega
  have hne : ∀ e ∈ es, e.1 ≠ e.2 := fun e he => by have := ok.form.ok e he; omega
  have W1 : Web1 n es c one := ⟨hn0, hE, hne, ok.conn, ok.col, hP1.lay⟩
  have hpar : (one 0 - oth 0) % 2 = 0 := by have := hP1.par; have := hP2.par; omega
  obtain ⟨k, hDk⟩ := TxtD.ex W1 hP2.lay hpar
  have hev := hP1.lay.even ok.conn hn0 hP2.lay hpar
  obtain ⟨t, ht⟩ := med_ex hn0 fun i => one i - oth i
  have hM : Med n (fun i => one i - oth i) t k := by
    refine ⟨ht, ?_, hev, fun i hi => by have := hP1.bd i hi; have := hP2.bd i hi; show -60 ≤ one i - oth i ∧ one i - oth i ≤ 60; omega⟩
    obtain ⟨k', hk'⟩ := dst_ex hn0 hev
    have : k' = k := TxtD.uniq W1 ⟨oth, hP2.lay, hpar, rfl, hk'⟩ hDk
    subst this
    obtain ⟨t', h1, h2⟩ := hk'
    rw [ht.uniq h1]; exact h2
  refine x_seq (x_par (x_cons (x_ev (v := tx (foldsL es c one)) (ev_call (ea_cons (ev_var rfl) (ea_cons (ev_var rfl) ea_nil)) (sp_folds_ok (hW3.mono x3) ok (hL13.mono x3) hP1.ok)) fun H4 e4 => x_cons (x_ev (v := tx (foldsL es c oth)) (ev_call (ea_cons (ev_var rfl) (ea_cons (ev_var rfl) ea_nil)) (sp_folds_ok ((hW3.mono x3).mono e4) ok ((hL2.mono x3).mono e4) hP2.ok)) fun H5 e5 => x_nil ⟨_, _, rfl, ?_⟩))))
  have x5 : Ex S3 H5 := x3.trans (e4.trans e5)
  have hP5 := e5 _ _ (e4 _ _ hP3)
  dsimp only
  show tSeq _ _ _ [some (.ref a), some (.ref r), some wv, some l1, some l2, some (tx (foldsL es c one)), some (tx (foldsL es c oth)), none, none, none, none, none, none, none, none, none, none, none] H5
  intro fnd hfnd
  refine ⟨_, rfl, x_c ⟨upd_same, [encE (foldsL es c one, 0)], rfl, (by show 1 ≤ 15; decide), _, rfl, by show 1 ≤ sizeLine; decide, fun ra hra => ⟨_, _, _, rfl, ?_⟩⟩⟩
  have hkv : mergeK [] [encE (foldsL es c one, 0)] = [(foldsL es c one, 0)].map encE := rfl
  rw [hkv] at hra ⊢
  have hSf : S3 fnd = none := fresh_back x5 hfnd
  have gA : Gr [] S3 H5 S3 (upd (upd H5 fnd (.dK [])) fnd (.dK ([(foldsL es c one, 0)].map encE))) := (Gr.lay x5 hfnd).put (.inl hfnd) hSf
  have hAf : upd (upd H5 fnd (.dK [])) fnd (.dK ([(foldsL es c one, 0)].map encE)) fnd = some (.dK ([(foldsL es c one, 0)].map encE)) := upd_same
  generalize upd (upd H5 fnd (.dK [])) fnd (.dK ([(foldsL es c one, 0)].map encE)) = HA at gA hAf hra ⊢
  have hHr : H5 ra = none := gA.fr x5 hra
  have hSr : S3 ra = none := gA.frS hra
  have hrf : ra ≠ fnd := fun e => by rw [e, hAf] at hra; cases hra
  have gB : Gr [] S3 H5 S3 (upd HA ra (.lst [tx (foldsL es c one)])) := gA.trans (Gr.lay gA.i hra)
  have hBf : upd HA ra (.lst [tx (foldsL es c one)]) fnd = some (.dK ([(foldsL es c one, 0)].map encE)) := by rw [upd_ne (Ne.symm hrf)]; exact hAf
  have hBr : upd HA ra (.lst [tx (foldsL es c one)]) ra = some (.lst ([foldsL es c one].map tx)) := upd_same
  generalize upd HA ra (.lst [tx (foldsL es c one)]) = HB at gB hBf hBr ⊢
  dsimp only
  show tSeq _ _ _ [some (.ref a), some (.ref r), some wv, some l1, some l2, some (tx (foldsL es c one)), some (tx (foldsL es c oth)), some (.ref fnd), some (.ref ra), some (.int 0), none, none, none, none, none, none, none, none] HB
  have hu := fun bs k k' (h1 : TxtD n es c one bs k) (h2 : TxtD n es c one bs k') => TxtD.uniq W1 h1 h2
  have hprev : ∀ bs k, TxtD n es c one bs (k + 1) → ∃ cs, TxtD n es c one cs k ∧ bs ∈ (openL n es cs).map (turnL es cs) := fun bs k h => by
    obtain ⟨cs, h1, x, hx, e⟩ := h.prev W1
    exact ⟨cs, h1, List.mem_map.mpr ⟨x, hx, e⟩⟩
  have few : ∀ (ents : List (List Bool × Nat)) (m : Nat) (rim later : List (List Bool)) (done : List Bool → Prop), TBfs (TxtD n es c one) m ents rim later done (fun bs => (openL n es bs).map (turnL es bs)) → ents.length ≤ 16384 := fun ents m rim later done I => by
    have h1 := texts_few (m := es.length) I.nod fun bs hb => by
      obtain ⟨⟨b, k⟩, hm, rfl⟩ := List.mem_map.mp hb
      exact ((I.mem b k).mp hm).1.len
    rw [List.length_map] at h1
    have h2 : 2 ^ es.length ≤ 2 ^ 14 := Nat.pow_le_pow_right (by decide) hfew
    omega
  refine q_while (fun M σ' H' => ∃ (m : Nat) (ents : List (List Bool × Nat)) (rim : List (List Bool)) (ra : Addr) (y1 y2 y3 y4 : Option V), σ' = [some (.ref a), some (.ref r), some wv, some l1, some l2, some (tx (foldsL es c one)), some (tx (foldsL es c oth)), some (.ref fnd), some (.ref ra), some (.int (m : Int)), y1, y2, y3, y4, none, none, none, none] ∧ Gr [] S3 H5 S3 H' ∧ H' fnd = some (.dK (ents.map encE)) ∧ H' ra = some (.lst (rim.map tx)) ∧ S3 ra = none ∧ ra ≠ fnd ∧ TBfs (TxtD n es c one) m ents rim [] (fun _ => False) (fun bs => (openL n es bs).map (turnL es bs)) ∧ M = 2 * (16384 - ents.length) + (if rim.isEmpty = true then 0 else 1)) (2 * (16384 - 1) + 1)
    ⟨0, [(foldsL es c one, 0)], [foldsL es c one], ra, none, none, none, none, rfl, gB, hBf, hBr, hSr, hrf, TBfs.start (TxtD.start W1) (fun bs h => h.zero W1), rfl⟩ ?_
  rintro M σ' H' ⟨m, ents, rim, ra, y1, y2, y3, y4, rfl, gg, hf, hl, hSr, hrf, I, rfl⟩
  refine ⟨!rim.isEmpty, et_test (ev_neNilT (ev_var rfl) ⟨ra, rfl, hl⟩), fun hb H8 e8 => ?_, fun hb H8 e8 => ?_⟩
  · have hrim : rim.isEmpty = false := by simpa using hb
    have gg8 : Gr [] S3 H5 S3 H8 := gg.trans (Gr.of_ex gg.i e8)
    have hf8 := e8 _ _ hf
    have hl8 := e8 _ _ hl
    refine ⟨_, fun σ2 H2 hN => hN, ?_⟩
    show tSeq _ _ _ [some (.ref a), some (.ref r), some wv, some l1, some l2, some (tx (foldsL es c one)), some (tx (foldsL es c oth)), some (.ref fnd), some (.ref ra), some (.int (m : Int)), y1, y2, y3, y4, none, none, none, none] H8
    refine x_seq (x_par (x_cons (x_ev (v := .int ((m + 1 : Nat) : Int)) (ev_is (ev_op (x := .int (m : Int)) (y := .int 1) (ev_var rfl) ev_c rv_I0) (by rw [Int.natCast_add]; rfl)) fun H8' e8' => ?_)))
    replace gg8 := gg8.trans (Gr.of_ex gg8.i e8')
    replace hf8 := e8' _ _ hf8
    replace hl8 := e8' _ _ hl8
    refine x_cons (x_lst (x_nil ⟨by show 0 ≤ sizeLine; omega, fun la hla => x_nil ⟨_, _, rfl, ?_⟩⟩))
    have hHl : H5 la = none := gg8.fr x5 hla
    have hSl : S3 la = none := gg8.frS hla
    have hlf : la ≠ fnd := fun e => by rw [e, hf8] at hla; cases hla
    have hlra : la ≠ ra := fun e => by rw [e, hl8] at hla; cases hla
    have gg9 : Gr [] S3 H5 S3 (upd H8' la (.lst [])) := gg8.trans (Gr.lay gg8.i hla)
    have hf9 : upd H8' la (.lst []) fnd = some (.dK (ents.map encE)) := by rw [upd_ne (Ne.symm hlf)]; exact hf8
    have hr9 : upd H8' la (.lst []) ra = some (.lst (rim.map tx)) := by rw [upd_ne (Ne.symm hlra)]; exact hl8
    have hl9 : upd H8' la (.lst []) la = some (.lst (([] : List (List Bool)).map tx)) := upd_same
    generalize upd H8' la (.lst []) = H9 at gg9 hf9 hr9 hl9 ⊢
    dsimp only
    show tSeq _ _ _ [some (.ref a), some (.ref r), some wv, some l1, some l2, some (tx (foldsL es c one)), some (tx (foldsL es c oth)), some (.ref fnd), some (.ref ra), some (.int ((m + 1 : Nat) : Int)), some (.ref la), y2, y3, y4, none, none, none, none] H9
    have exR : Ex (upd S3 ra (.lst (rim.map tx))) H9 := fun b o h => by
      by_cases e : b = ra
      · subst e; rw [upd_same] at h; rw [hr9]; exact h
      · rw [upd_ne e] at h; exact gg9.i b o h
    have sRf : upd S3 ra (.lst (rim.map tx)) fnd = none := by rw [upd_ne (Ne.symm hrf)]; exact hSf
    have sRl : upd S3 ra (.lst (rim.map tx)) la = none := by rw [upd_ne hlra]; exact hSl
    refine for_turns (n := rim.length) (u := fun i σ' => σ'.set 11 (some (tx (rim.getD i [])))) (S := upd S3 ra (.lst (rim.map tx)))
      (turns_tx (K := K) (j := 11) (v := .ref ra) (ev_var rfl) exR ⟨ra, rfl, upd_same⟩)
      (fun S4 i σ' H' => ∃ (ents' : List (List Bool × Nat)) (later : List (List Bool)) (y2 y3 y4 : Option V), σ' = [some (.ref a), some (.ref r), some wv, some l1, some l2, some (tx (foldsL es c one)), some (tx (foldsL es c oth)), some (.ref fnd), some (.ref ra), some (.int ((m + 1 : Nat) : Int)), some (.ref la), y2, y3, y4, none, none, none, none] ∧ Ex S4 H' ∧ Ex S3 S4 ∧ S4 fnd = none ∧ S4 la = none ∧ Gr [] S3 H5 S3 H' ∧ H' fnd = some (.dK (ents'.map encE)) ∧ H' la = some (.lst (later.map tx)) ∧
        TBfs (TxtD n es c one) m ents' rim later (fun b => b ∈ rim.take i) (fun bs => (openL n es bs).map (turnL es bs)) ∧ ents'.length = ents.length + later.length)
      (fun S4 H4 g4 => ⟨ents, [], y2, y3, y4, rfl, g4.i, (Ex.new hSr).trans g4.s, g4.f _ sRf (by rw [hf9]; simp), g4.f _ sRl (by rw [hl9]; simp), gg9.trans (Gr.of_ex gg9.i g4.ex), g4.ex _ _ hf9, g4.ex _ _ hl9, I.weak (fun u h => by simp at h), rfl⟩)
      (fun S4 i σ' H' ⟨_, _, _, _, _, _, x, _⟩ => x) ?_ ?_
    · rintro S4 i σ' H' hi ⟨ents', later, y2, y3, y4, rfl, x4, x34, h4f, h4l, gS, hfd, hld, I', hlen⟩ H10 e10
      have hri : rim[i]? = some (rim.getD i []) := by rw [List.getD_eq_getElem?_getD, List.getElem?_eq_getElem hi]; rfl
      generalize rim.getD i [] = bs at hri ⊢
      have hDb : TxtD n es c one bs m := (I'.rimI bs).mp (List.mem_of_getElem? hri)
      have hbl := hDb.len
      have x10 := x4.trans e10
      have gS10 := gS.trans (Gr.of_ex gS.i e10)
      have hf10 := e10 _ _ hfd
      have hl10 := e10 _ _ hld
      have hW4 := hW3.mono x34
      have tk : ∀ u, u ∈ rim.take (i + 1) → u ∈ rim.take i ∨ u = bs := fun u hu => by
        rw [List.take_add_one, hri] at hu
        simpa using hu
      show tFor _ _ _ _ [some (.ref a), some (.ref r), some wv, some l1, some l2, some (tx (foldsL es c one)), some (tx (foldsL es c oth)), some (.ref fnd), some (.ref ra), some (.int ((m + 1 : Nat) : Int)), some (.ref la), some (tx bs), y3, y4, none, none, none, none] H10
      refine for_turns (n := (openL n es bs).length) (u := fun j σ' => σ'.set 12 (some (.int ((openL n es bs).getD j 0 : Int)))) (S := S4)
        (turns_natsT (K := K) (j := 12) (eg_call (ea_cons (ev_var rfl) (ea_cons (ev_var (v := tx bs) rfl) ea_nil)) (sp_open_ok hW4 ok hbl)) H10 x10)
        (fun S5 j σ' H' => ∃ (ents' : List (List Bool × Nat)) (later : List (List Bool)) (y3 y4 : Option V), σ' = [some (.ref a), some (.ref r), some wv, some l1, some l2, some (tx (foldsL es c one)), some (tx (foldsL es c oth)), some (.ref fnd), some (.ref ra), some (.int ((m + 1 : Nat) : Int)), some (.ref la), some (tx bs), y3, y4, none, none, none, none] ∧ Ex S5 H' ∧ Ex S4 S5 ∧ S5 fnd = none ∧ S5 la = none ∧ Gr [] S3 H5 S3 H' ∧ H' fnd = some (.dK (ents'.map encE)) ∧ H' la = some (.lst (later.map tx)) ∧
          TBfs (TxtD n es c one) m ents' rim later (fun b => b ∈ rim.take i) (fun bs => (openL n es bs).map (turnL es bs)) ∧ ents'.length = ents.length + later.length ∧ ∀ x ∈ (openL n es bs).take j, TxtD n es c one (turnL es bs x) (m + 1) → turnL es bs x ∈ later)
        (fun S5 H5' g5 => ⟨ents', later, y3, y4, rfl, g5.i, g5.s, g5.f _ h4f (by rw [hf10]; simp), g5.f _ h4l (by rw [hl10]; simp), gS10.trans (Gr.of_ex gS10.i g5.ex), g5.ex _ _ hf10, g5.ex _ _ hl10, I', hlen, fun u hu => by simp at hu⟩)
        (fun S5 j σ' H' ⟨_, _, _, _, _, x, _⟩ => x) ?_ ?_
      · rintro S5 j σ' H' hj ⟨ents', later, y3, y4, rfl, x5', x45, h5f, h5l, gS, hfd, hld, I', hlen, hx'⟩ H11 e11
        have hxj : (openL n es bs)[j]? = some ((openL n es bs).getD j 0) := by rw [List.getD_eq_getElem?_getD, List.getElem?_eq_getElem hj]; rfl
        generalize (openL n es bs).getD j 0 = x at hxj ⊢
        have hxo := List.mem_of_getElem? hxj
        obtain ⟨hx1, hx2⟩ := List.mem_filter.mp hxo
        have hxn := List.mem_range.mp hx1
        obtain ⟨k1, hk1, hk1m⟩ := hDb.turn W1 hxo
        have x511 := x5'.trans e11
        have gS11 := gS.trans (Gr.of_ex gS.i e11)
        have hf11 := e11 _ _ hfd
        have hl11 := e11 _ _ hld
        have hfw := few _ _ _ _ _ I'
        have tk2 : ∀ u ∈ (openL n es bs).take (j + 1), u ∈ (openL n es bs).take j ∨ u = x := fun u hu => by
          rw [List.take_add_one, hxj] at hu
          simpa using hu
        show tSeq _ _ _ [some (.ref a), some (.ref r), some wv, some l1, some l2, some (tx (foldsL es c one)), some (tx (foldsL es c oth)), some (.ref fnd), some (.ref ra), some (.int ((m + 1 : Nat) : Int)), some (.ref la), some (tx bs), some (.int (x : Int)), y4, none, none, none, none] H11
        refine q_asg (v := tx (turnL es bs x)) (ev_call (ea_cons (ev_var rfl) (ea_cons (ev_var (v := tx bs) rfl) (ea_cons (ev_var rfl) ea_nil))) (sp_turn_ok (((hW4.mono x45)).mono x511) ok hbl hxn hx2)) (fun H12 e12 => ?_)
        have x512 := x511.trans e12
        have gS12 := gS11.trans (Gr.of_ex gS11.i e12)
        have hf12 := e12 _ _ hf11
        have hl12 := e12 _ _ hl11
        show tIfS _ _ _ _ [some (.ref a), some (.ref r), some wv, some l1, some l2, some (tx (foldsL es c one)), some (tx (foldsL es c oth)), some (.ref fnd), some (.ref ra), some (.int ((m + 1 : Nat) : Int)), some (.ref la), some (tx bs), some (.int (x : Int)), some (tx (turnL es bs x)), none, none, none, none] H12
        refine s_when (b := !decide (turnL es bs x ∈ ents'.map (·.1))) (et_is (et_dnotin (k := kT (turnL es bs x)) (ev_var rfl) (ev_var rfl) hf12) (by rw [enc_some])) (fun hb H13 e13 => ?_) (fun hb H13 e13 => ?_)
        · have hni : turnL es bs x ∉ ents'.map (·.1) := by simpa using hb
          have hk2 : k1 = m + 1 := by
            by_cases q : k1 ≤ m
            · exact absurd ((I'.has hu hk1).mpr (.inl q)) hni
            · omega
          subst hk2
          have hf13 := e13 _ _ hf12
          have hl13 := e13 _ _ hl12
          refine q_dputK (a := fnd) (kvs := ents'.map encE) (k := kT (turnL es bs x)) (v := .int ((m + 1 : Nat) : Int)) (ev_var rfl) (ev_var rfl) (ev_var rfl) hf13 (by rw [List.length_map]; omega) (fun H14 e14 => ?_)
          rw [enc_put hni]
          have x514 := ((x512.trans e13).trans e14).mut (o := .dK ((ents' ++ [(turnL es bs x, m + 1)]).map encE)) h5f
          have gS14 := (gS12.trans (Gr.of_ex gS12.i (e13.trans e14))).put (p := fnd) (u := .dK ((ents' ++ [(turnL es bs x, m + 1)]).map encE)) (.inl hfnd) hSf
          refine s_app (l := la) (xs := later.map tx) (v := tx (turnL es bs x)) ?_ (ev_var rfl) (ev_var rfl) ?_ (fun H15 e15 => ?_)
          · rw [upd_ne hlf]; exact e14 _ _ hl13
          · rw [List.length_map]; omega
          · refine ⟨ents' ++ [(turnL es bs x, m + 1)], later ++ [turnL es bs x], _, _, rfl, (x514.trans e15).mut h5l, x45, h5f, h5l, (gS14.trans (Gr.of_ex gS14.i e15)).put (.inl hHl) hSl, ?_, by rw [upd_same, List.map_append]; rfl, I'.add hu hk1 hni, by rw [List.length_append, List.length_append, hlen, Nat.add_assoc]; rfl, fun u hu2 hD => ?_⟩
            · rw [upd_ne (Ne.symm hlf)]; exact e15 _ _ upd_same
            · rcases tk2 u hu2 with q | q
              · exact List.mem_append_left _ (hx' u q hD)
              · subst q; simp
        · have hin : turnL es bs x ∈ ents'.map (·.1) := by simpa using hb
          refine ⟨ents', later, _, _, rfl, x512.trans e13, x45, h5f, h5l, gS12.trans (Gr.of_ex gS12.i e13), e13 _ _ hf12, e13 _ _ hl12, I', hlen, fun u hu2 hD => ?_⟩
          rcases tk2 u hu2 with q | q
          · exact hx' u q hD
          · subst q
            rcases (I'.has hu hD).mp hin with z | z
            · omega
            · exact z.2
      · rintro S5 σ' H' ⟨ents', later, y3, y4, rfl, x5', x45, h5f, h5l, gS, hfd, hld, I', hlen, hx'⟩
        rw [List.take_length] at hx'
        refine ⟨ents', later, _, _, _, rfl, x45.trans x5', x34, h4f, h4l, gS, hfd, hld, (I'.more (bs := bs) fun cs hcs hD => ?_).weak (fun u hu2 => tk u hu2), hlen⟩
        obtain ⟨x, hx, rfl⟩ := List.mem_map.mp hcs
        exact hx' x hx hD
    · rintro S4 σ' H' ⟨ents', later, y2, y3, y4, rfl, x4, x34, h4f, h4l, gS, hfd, hld, I', hlen⟩
      rw [List.take_length] at I'
      dsimp only
      show tAsg (tVar 10) (gName 8) _ [some (.ref a), some (.ref r), some wv, some l1, some l2, some (tx (foldsL es c one)), some (tx (foldsL es c oth)), some (.ref fnd), some (.ref ra), some (.int ((m + 1 : Nat) : Int)), some (.ref la), y2, y3, y4, none, none, none, none] H'
      refine s_asg (v := .ref la) (ev_var rfl) (fun H14 e14 => ?_)
      have hfw := few _ _ _ _ _ I'
      refine ⟨_, ?_, m + 1, ents', later, la, _, _, _, _, rfl, gS.trans (Gr.of_ex gS.i e14), e14 _ _ hfd, e14 _ _ hld, hSl, hlf, I'.step (fun u hu2 => hu2) hprev, rfl⟩
      rw [hrim]
      cases later with
      | nil =>
        rw [List.length_nil] at hlen
        show 2 * (16384 - ents'.length) + 0 < 2 * (16384 - ents.length) + 1
        omega
      | cons z zs =>
        rw [List.length_cons] at hlen
        show 2 * (16384 - ents'.length) + 1 < 2 * (16384 - ents.length) + 1
        omega
  · have hrim : rim = [] := by
      cases rim with
      | nil => rfl
      | cons => cases hb
    subst hrim
    have hall := I.fin hprev
    have hLall : ∀ bs, bs ∈ ents.map (·.1) ↔ ∃ k, TxtD n es c one bs k := fun bs => by
      constructor
      · intro h
        obtain ⟨⟨b, k⟩, hm, rfl⟩ := List.mem_map.mp h
        exact ⟨k, ((I.mem b k).mp hm).1⟩
      · rintro ⟨k, hk⟩
        exact (I.has hu hk).mpr (.inl (by have := hall _ _ hk; omega))
    have hgin : (foldsL es c oth, k) ∈ ents := (I.mem _ _).mpr ⟨hDk, .inl (by have := hall _ _ hDk; omega)⟩
    have hcount : ∀ gs, AllL n es gs → ents.length = gs.length := fun gs A => by
      have := count_all W1 A I.nod hLall
      rw [List.length_map] at this; exact this
    have hval := enc_val I.nod hgin
    have gg8 := gg.trans (Gr.of_ex gg.i e8)
    have ggF := gg8.fix hfnd (e8 _ _ hf)
    have hP8 := ggF.ex _ _ hP5
    clear gg gg8 hf hl hrf I few hall hLall
    have hWF := hW3.mono ggF.s
    have hL1F := hL13.mono ggF.s
    have hL2F := hL2.mono ggF.s
    have hFF : upd S3 fnd (.dK (ents.map encE)) fnd = some (.dK (ents.map encE)) := upd_same
    have xF := ggF.i
    have hPF := ggF.s _ _ hPS3
    generalize upd S3 fnd (.dK (ents.map encE)) = SF at ggF hWF hL1F hL2F hFF xF hPF
    clear ggF
    have hhi := ok.form.hi
    have h60 : -60 ≤ t ∧ t ≤ 60 ∧ t % 2 = 0 := by
      obtain ⟨i, hi, ei⟩ := ht.at_
      have h1 := hM.bd i hi
      have h2 := hev i hi
      rw [ei]; exact ⟨h1.1, h1.2, h2⟩
    have hSum : (sumS (difS n one oth) t).fdiv 2 = (k : Int) := by
      unfold difS
      rw [sumS_map]; exact even_fdiv hM.sum
    have hgk : ∀ (σ : L2.St) (S : Hp), σ[7]? = some (some (.ref fnd)) → σ[6]? = some (some (tx (foldsL es c oth))) → Ex SF S → Ev (tDGet (tVar 7) (tVar 6)) σ S (.int (k : Int)) := fun σ S h1 h2 e => ev_dgetK (k := kT (foldsL es c oth)) (ev_var h1) (ev_var h2) (e _ _ hFF) hval
    show tSeq _ _ _ [some (.ref a), some (.ref r), some wv, some l1, some l2, some (tx (foldsL es c one)), some (tx (foldsL es c oth)), some (.ref fnd), some (.ref ra), some (.int (m : Int)), y1, y2, y3, y4, none, none, none, none] H8
    refine q_when (b := false || !decide ((k : Int) = (k : Int))) (et_or (et_is (et_dnotin (k := kT (foldsL es c oth)) (ev_var rfl) (ev_var rfl) (xF _ _ hFF)) (by rw [hval]; rfl)) (fun _ => et_not (et_B (ev_call (ea_cons (ev_is (ev_call (ea_cons (ev_var rfl) (ea_cons (ev_var (v := tx (foldsL es c one)) rfl) (ea_cons (ev_var (v := tx (foldsL es c oth)) rfl) ea_nil))) (sp_fewest_ok (hWF.mono xF) ok hP1.lay hP2.lay ht)) (by rw [hSum])) (ea_cons (hgk _ _ rfl rfl xF) ea_nil)) sp_alike_ok)))) (fun hb2 => by simp at hb2) (fun _ H9 e9 => ?_)
    have x9 := xF.trans e9
    refine q_when (b := !decide ((k : Int) = (k : Int))) (et_not (et_B (ev_call (ea_cons (ev_is (ev_call (ea_cons (ev_var rfl) (ea_cons (ev_var rfl) (ea_cons (ev_var rfl) ea_nil))) (sp_shift_ok (R := fun a _ => a) (hWF.mono x9) ok (hL1F.mono x9) hP1.ok (hL2F.mono x9) hP2.ok hpar ht)) (by rw [hSum])) (ea_cons (hgk _ _ rfl rfl x9) ea_nil)) sp_alike_ok))) (fun hb2 => by simp at hb2) (fun _ H10 e10 => ?_)
    have x10 := x9.trans e10
    refine x_seq (x_asg fun d hd => ?_)
    have hSd : SF d = none := fresh_back x10 hd
    have x11 : Ex SF (upd H10 d (.dK [])) := x10.mut hSd
    have h11d : upd H10 d (.dK []) d = some (.dK (stK n (fun i => one i - oth i) 0)) := upd_same
    generalize upd H10 d (.dK []) = H11 at x11 h11d ⊢
    dsimp only
    show tSeq _ _ _ [some (.ref a), some (.ref r), some wv, some l1, some l2, some (tx (foldsL es c one)), some (tx (foldsL es c oth)), some (.ref fnd), some (.ref ra), some (.int (m : Int)), y1, y2, y3, y4, some (.ref d), none, none, none] H11
    refine x_seq (x_for3 (x_cons (x_ev (v := .int (0 - 60)) (ev_op ev_c ev_c rv_I0) fun H12 e12 => x_cons (x_c (x_cons (x_c (x_nil ⟨0 - 60, 61, 2, 61, rfl, ⟨by decide, by decide, by decide +kernel, by decide +kernel⟩, ?_⟩)))))))
    refine itc_go (fun i σ' H' => ∃ y15 : Option V, σ' = [some (.ref a), some (.ref r), some wv, some l1, some l2, some (tx (foldsL es c one)), some (tx (foldsL es c oth)), some (.ref fnd), some (.ref ra), some (.int (m : Int)), y1, y2, y3, y4, some (.ref d), y15, none, none] ∧ Ex SF H' ∧ H' d = some (.dK (stK n (fun i => one i - oth i) i)))
      ⟨none, rfl, x11.trans e12, e12 _ _ h11d⟩ ?_ ?_
    · rintro i σ' H' hi ⟨y15, rfl, xS, hd'⟩
      show sDPut _ _ _ _ [some (.ref a), some (.ref r), some wv, some l1, some l2, some (tx (foldsL es c one)), some (tx (foldsL es c oth)), some (.ref fnd), some (.ref ra), some (.int (m : Int)), y1, y2, y3, y4, some (.ref d), some (.int (shf i)), none, none] H'
      refine s_dputK (a := d) (kvs := stK n (fun i => one i - oth i) i) (k := .inl (shf i)) (v := .int (valS n (fun i => one i - oth i) (shf i))) (EvG.ev (eg_callG (Pa := fun vs S' => ∃ lv, vs = [l1, lv] ∧ LayV S' lv n fun z => oth z + shf i) (eag_cons (ev_var rfl) (eag_consG (shift_lay (by omega) (hL2F.mono xS) (ev_var rfl) (fun _ _ h => h) (fun _ => rfl) (by show 17 < 18; decide)) fun lv S1 e1 hlv => eag_nil ⟨lv, rfl, hlv⟩)) fun vs S1 e1 ⟨lv, ev, hlv⟩ => by
          subst ev
          intro H2 e2 Q2 E2 q2
          have := sp_apart_ok (n := n) (h := one) (g := fun z => oth z + shf i) hhi ((hL1F.mono xS).mono e1) hlv H2 e2 Q2
          rw [apart_val] at this
          exact this (fun H3 e3 => q2 _ S1 H3 (Gr.of_ex e2 e3) rfl) E2)) (ev_var rfl) (ev_var rfl) hd' (by rw [stK_len]; omega) (fun H13 e13 => ?_)
      rw [stK_put]
      exact ⟨_, rfl, (xS.trans e13).mut hSd, upd_same⟩
    · rintro σ' H' ⟨y15, rfl, xS, hd'⟩
      dsimp only
      show tSeq _ _ _ [some (.ref a), some (.ref r), some wv, some l1, some l2, some (tx (foldsL es c one)), some (tx (foldsL es c oth)), some (.ref fnd), some (.ref ra), some (.int (m : Int)), y1, y2, y3, y4, some (.ref d), y15, none, none] H'
      refine x_seq (x_asg (x_cons ⟨d, .dK (stK n (fun i => one i - oth i) 61), hd', trivial, fun od => ?_⟩))
      have hRd : Rd (upd SF d (.frz od (.dK (stK n (fun i => one i - oth i) 61)))) d (.dK (stK n (fun i => one i - oth i) 61)) := .inr ⟨od, upd_same⟩
      have xL : Ex (upd SF d (.frz od (.dK (stK n (fun i => one i - oth i) 61)))) (upd H' d (.frz od (.dK (stK n (fun i => one i - oth i) 61)))) := fun b o h => by
        by_cases e : b = d
        · subst e; rw [upd_same] at h ⊢; exact h
        · rw [upd_ne e] at h ⊢; exact xS _ _ h
      have hkt : Turns (iKeys (tVar 14)) (gName 15) [some (.ref a), some (.ref r), some wv, some l1, some l2, some (tx (foldsL es c one)), some (tx (foldsL es c oth)), some (.ref fnd), some (.ref ra), some (.int (m : Int)), y1, y2, y3, y4, some (.ref d), y15, none, none] (upd SF d (.frz od (.dK (stK n (fun i => one i - oth i) 61)))) 61 fun i σ' => σ'.set 15 (some (.int (shf i))) := by
        have := turns_keys (σ := [some (.ref a), some (.ref r), some wv, some l1, some l2, some (tx (foldsL es c one)), some (tx (foldsL es c oth)), some (.ref fnd), some (.ref ra), some (.int (m : Int)), y1, y2, y3, y4, some (.ref d), y15, none, none]) (S := upd SF d (.frz od (.dK (stK n (fun i => one i - oth i) 61)))) (td := tVar 14) (g := gName 15) (d := d) (od := od) (kvs := stK n (fun i => one i - oth i) 61) (u := fun i σ' => σ'.set 15 (some (.int (shf i)))) (ev_var rfl) upd_same (fun i k v H σ' Q hk q => by
          have hi : i < 61 := by
            obtain ⟨h1, _⟩ := List.getElem?_eq_some_iff.mp hk
            rw [stK_len] at h1; exact h1
          rw [stK_get hi] at hk
          cases hk
          exact q H (Ex.refl _))
        rw [stK_len] at this
        exact this
      refine lc_filter (n := 61) (fun i => decide (V.int (valS n (fun i => one i - oth i) (shf i)) = V.int (k : Int))) (fun i => V.int (shf i)) hkt (fun i _ => set1_wipe _ _ _) (by decide) (fun i S1 hi e => et_test (ev_op (x := .int (valS n (fun i => one i - oth i) (shf i))) (y := .int (k : Int)) (ev_dgetR (k := .inl (shf i)) (ev_var rfl) (ev_var rfl) (ex_rd e hRd) (by rw [stK_val, if_pos ⟨i, hi, rfl⟩])) (ev_minV hM (ev_var rfl) (ex_rd e hRd)) (rv_eq rfl))) (fun i S1 hi _ e => ev_var rfl) _ xL _ fun bv S1 H1 g1 ⟨ba, ebv, hba⟩ => ?_
      subst ebv
      have h1d : H1 d = some (.frz od (.dK (stK n (fun i => one i - oth i) 61))) := g1.ex _ _ upd_same
      have hbd : ba ≠ d := fun e => by
        have := g1.i _ _ hba
        rw [e, h1d] at this; cases this
      have xM : Ex SF (upd H1 d (.dK (stK n (fun i => one i - oth i) 61))) := fun b o h => by
        have hbne : b ≠ d := ne_of_none h hSd
        rw [upd_ne hbne]
        exact g1.i _ _ (g1.s _ _ (by rw [upd_ne hbne]; exact h))
      have hMd : upd H1 d (.dK (stK n (fun i => one i - oth i) 61)) d = some (.dK (stK n (fun i => one i - oth i) 61)) := upd_same
      have hMb : upd H1 d (.dK (stK n (fun i => one i - oth i) 61)) ba = some (.lst (iV (bests n (fun i => one i - oth i) k))) := by
        rw [upd_ne hbd, g1.i _ _ hba]
        unfold bests iV
        rw [List.map_map]; rfl
      refine ⟨h1d, x_nil ⟨ba, bests n (fun i => one i - oth i) k, rfl, sq_of hMb, hM.bests_pos, fun mm hmm hml => ?_⟩⟩
      rw [hM.best hmm hml]
      generalize upd H1 d (.dK (stK n (fun i => one i - oth i) 61)) = H2 at xM hMd
      dsimp only
      show tSeq _ _ _ [some (.ref a), some (.ref r), some wv, some l1, some l2, some (tx (foldsL es c one)), some (tx (foldsL es c oth)), some (.ref fnd), some (.ref ra), some (.int (m : Int)), y1, y2, y3, y4, some (.ref d), y15, some (.int t), none] H2
      refine q_when (b := !decide (t = t) || !decide (V.int (k : Int) = V.int (k : Int))) (et_or (et_not (et_B (ev_call (ea_cons (ev_call (ea_cons (ev_var rfl) (ea_cons (ev_var rfl) (ea_cons (ev_var rfl) ea_nil))) (sp_shift_ok (R := fun _ b => b) (hWF.mono xM) ok (hL1F.mono xM) hP1.ok (hL2F.mono xM) hP2.ok hpar ht)) (ea_cons (ev_var rfl) ea_nil)) sp_alike_ok))) (fun _ => et_test (ev_op (ev_minV hM (ev_var rfl) (.inl hMd)) (hgk _ _ rfl rfl xM) (rv_ne rfl)))) (fun hb2 => by simp at hb2) (fun _ H3 e3 => ?_)
      have x3' := xM.trans e3
      have lo2 : LayOk n es fun i => oth i + t := ⟨fun i hi => by have := hP2.bd i hi; show -1000000 ≤ oth i + t ∧ oth i + t ≤ 1000000; omega, fun e he => by
        have := hP2.lay e he
        show absI (oth e.1 + t - (oth e.2 + t)) = 1
        rw [show oth e.1 + t - (oth e.2 + t) = oth e.1 - oth e.2 by omega]; exact this⟩
      refine x_ret ?_
      refine x_ev (te := tOp rEq (tCall (sp_two fun n _ h g => .int ((sumD n h g).fdiv 2)) [] E0 (tCons (tVar 2) (tCons (tVar 3) (tCons (tCall sp_moved [] E0 (tCons (tVar 2) (tCons (tVar 4) (tCons (tVar 16) tNil)))) tNil)))) (tDGet (tVar 7) (tVar 6))) (v := .bl (decide (V.int (k : Int) = V.int (k : Int)))) (ev_op (EvG.ev (eg_callG (Pa := fun vs S' => ∃ lv, vs = [wv, l1, lv] ∧ LayV S' lv n fun z => oth z + t) (eag_cons (ev_var rfl) (eag_cons (ev_var rfl) (eag_consG (eg_call (P := fun r S' => LayV S' r n fun i => oth i + t) (ea_cons (ev_var rfl) (ea_cons (ev_var rfl) (ea_cons (ev_var rfl) ea_nil))) fun H4 e4 Q4 E4 q4 => ⟨H3, wv, n, es, c, l2, oth, t, rfl, e4, hWF.mono x3', ok, hL2F.mono x3', hP2.ok, by omega, by omega, lo2, q4⟩) fun lv S1 e1 hlv => eag_nil ⟨lv, rfl, hlv⟩))) fun vs S1 e1 ⟨lv, ev, hlv⟩ => by
          subst ev
          intro H4 e4 Q4 E4 q4
          refine sp_two_ok (R := fun n _ h g => .int ((sumD n h g).fdiv 2)) ((hWF.mono x3').mono e1) ok ((hL1F.mono x3').mono e1) hP1.ok hlv lo2 (by show (one 0 - (oth 0 + t)) % 2 = 0; omega) H4 e4 Q4 (fun H5 e5 => ?_) E4
          refine q4 _ S1 H5 (Gr.of_ex e4 e5) ?_
          show V.int ((sumD n one fun i => oth i + t).fdiv 2) = .int (k : Int)
          rw [apart_val, hM.valT])) (hgk _ _ rfl rfl x3') (rv_eq rfl)) fun H4 e4 => ⟨_, rfl, ?_⟩
      rw [decide_eq_true (rfl : V.int (k : Int) = V.int (k : Int)), if_pos rfl]
      have x4' := x3'.trans e4
      refine x_op (x_ev (te := tCB rLenD (tCons (tVar 7) tNil)) (v := .int ((ents.map encE).length : Int)) (ev_lenD (ev_var rfl) (x4' _ _ hFF)) fun H5' e5' => ?_)
      have x5' := x4'.trans e5'
      refine x_cons (x_call (x_cons (x_var (v := wv) rfl (x_cons (x_c (x_cons (x_c (x_nil ⟨SF, wv, n, es, c, rfl, x5', x5' _ _ hPF, hWF.mono (Ex.refl _), ok, hn7, fun gs l ps H6 A hps hl => x_nil ⟨l, ps, rfl, .inl (sq_of hl), ?_⟩⟩))))))))
      refine ⟨rfl, ?_⟩
      rw [List.length_map, hps, hcount gs A, decide_eq_true rfl]
      exact hq H6
end
end Tr
end
set_option Elab.async false
set_option linter.all false
set_option maxRecDepth 100000
set_option maxHeartbeats 0
namespace Tr
open PySem PySem.Spec PyProof.Rows L2
abbrev R : PySem.W.OpenRow := PySem.W.OpenLaw.row PySem.Challenge.rw_terraces_k44_whole_fewest_turns
def tfL : List He.Defn := [("_law_all", none)]
abbrev hk : PySem.W.Hook := He.hookX 4 faL fnL [] tfL fun _ => true
def ob (s : PySem.W.SharedT) : He.AlX := He.obsX 4 faL fnL [] tfL (fun _ => true) (HandSHeadRun.getT s)
theorem ob_eq (s : PySem.W.SharedT) : ob s = hk.obs s.abs := He.obsX_eq (HandSHeadRun.getT_eq s)
def loose : List Str := (["TerraceError", "BadWeb", "BadField", "BadLaying", "BadDeed", "BadSlopes", "OtherParity", "NoLaying", "MOST_FIELDS", "is_int", "is_in", "is_pair", "has_form", "nears_of", "reach_of", "odd_hedge", "bar_of", "need_web", "need_field", "MOST_HEIGHT", "is_laying_of", "need_laying", "need_one", "need_two", "moved", "spread", "sign_of", "folds_of", "folds"] : List Str) ++
  (["need_folds", "heights_of", "has_steps", "letters_at", "turn", "open_faces", "best_shift_of", "shift_distance", "best_shift", "fewest_turns", "steps_between", "distance", "_law_taken", "_law_pick", "_law_alike", "_law_mixed", "_law_tree", "_law_web", "_law_nears", "_law_far", "_law_laying", "_law_lows", "_law_highs", "_law_changed", "_law_next", "_law_all", "_law_apart"] : List Str)
theorem run (w : World) : HandSHeadRun.RunEq R (PySem.W.view R.prog [63]) hk ob 4000 loose w := by
  intro os
  kernel_rfl
end Tr
namespace Tr
open PySem PySem.Spec PyProof.Rows L2
theorem law_at {l : PySem.W.OpenLaw} {w : World} {mg : Str → Option Value} {fa : Addr} {h : Heap} (Y : hk.says w h) (G : h.Ns mainGlobals mg) (hmg : mg ("law" : Str) = some (.ref fa)) :
    ∃ K : PySem.W.Frag, K.In h ∧ LamX.LawAtS l w K CX0 10 63 "_law_script" mg fa h := by
  obtain ⟨K, KX, c⟩ := Y
  refine ⟨K, KX, ?_⟩
  have gl : mg ("law" : Str) = some (.ref (He.ga K "law")) := He.glo_ok KX G (c.t.d.facts (by unfold faL; simp))
  have e := hmg.symm.trans gl
  cases e
  obtain ⟨fd, F⟩ := c.t.d.defs (d := dD "law" s_law) (by unfold fnL; simp)
  have F : FunD K "law" "law" (defArgs s_law) (defBody s_law) (defScope s_law) [] [] (He.ga K "law") fd := F
  have b := FunD.bindsA (ps := ["_law_script"]) F fun _ _ _ _ _ _ us hl => match us, hl with | [_], _ => rfl
  have hT : (("_law_all", none) : He.Defn) ∈ tfL := List.mem_singleton.mpr rfl
  refine ⟨fd, [He.cT K ("_law_all", none)], sp_law K, fun p hp => ?_, fun p hp => ?_, fun p hp => ?_, fun s u => b s [u] rfl, fun H a ns hl _ hP hS => ⟨a, ns, rfl, hS, hl, hP _ (List.mem_singleton.mpr rfl), fun _ => rfl⟩, fun base hK hN hTB => ?_⟩
  · rw [List.mem_singleton.mp hp]; exact c.empty _ hT
  · rw [List.mem_singleton.mp hp]; exact c.out _ hT
  · rw [List.mem_singleton.mp hp]; exact PySem.W.codeHd_of_K KX (c.hd _ hT)
  · exact ok_law (Tx.mk' hK hN c.t.d) (hTB _ (List.mem_singleton.mpr rfl)) F
end Tr
open PySem PySem.W PySem.Calls PyProof.Rows
set_option maxRecDepth 100000 in
set_option maxHeartbeats 0 in
theorem PySem.Challenge.cw_terraces_k44_whole_fewest_turns_holds : PySem.Challenge.rw_terraces_k44_whole_fewest_turns.Holds := by
  w_on; o_law
  refine HandSHeadRun.head_any (r := OpenLaw.row PySem.Challenge.rw_terraces_k44_whole_fewest_turns) (q := view (OpenLaw.row PySem.Challenge.rw_terraces_k44_whole_fewest_turns).prog [63]) (H := Tr.hk) (ob := Tr.ob) (M := 4000) (loose := Tr.loose) (d := HandSHeadRun.topDef (OpenLaw.row PySem.Challenge.rw_terraces_k44_whole_fewest_turns).prog 63) (kwd := []) Tr.ob_eq
    (by kernel_rfl) (fun s => by kernel_rfl) Tr.run (by kernel_rfl) (by kernel_rfl) (by kernel_rfl) (by rfl) (by first | assumption | decide +kernel) (by decide +kernel) ⟨rfl, rfl, rfl, rfl, rfl, by decide +kernel⟩ ?hw ?hc
  case hw => w_witness2
  case hc =>
    refine LamX.walk_ofTsE (l := PySem.Challenge.rw_terraces_k44_whole_fewest_turns) (n := 63) (k := 10) (x := "_law_script") (CX := fun _ => L2.CX0) rfl (by decide) (by kernel_rfl) ⟨rfl, by decide, by decide⟩ ?F (fun _ _ _ _ _ z => z)
    intro w mg fa h Y G hmg0
    have hmg : mg ("law" : PySem.Str) = some (.ref fa) := by
      have e : (HandSHeadRun.topDef (OpenLaw.row PySem.Challenge.rw_terraces_k44_whole_fewest_turns).prog 63).name = ("law" : PySem.Str) := by kernel_rfl
      rw [← e]
      exact hmg0
    exact Tr.law_at Y G hmg
