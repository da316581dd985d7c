import PyProof.Rows.All
import Wide.All
import OpenK.AllK
import Wide.FinOn
import HandS.ForMost
import HandS.Defaults
import HandS.Codes
import HandS.Wide
import PyProof.ListStr
import PyProof.StrOps2
import PyProof.ReprRoads
import PyProof.ReprLen
import HandS.RaiseMore
import HandS.ListItems
import HandS.WordsDict
import HandS.Walk
import KE.KOpsOwn
import HandS.More
import HandS.Star
import HandS.Property
import HandS.ClsMeth
import HandS.MakeKw
import HandS.MakeKwOnly
import HandS.IsInst
import PyProof.TupleOfSeq
import HandS.SetBool
import HandS.Strs
import KE.KDictList
import HandS.DictComp
import PyProof.P3Eq
import HandS.Steps
import HandS.NoneIn
import HandS.CallLocal
import HandS.Lambda
import HandS.TupMul
import KE.SortKeyHeap
import HandS.EndTab
import HandS.HeadHook1
import HandS.HeadHook2
import HandS.HeadHook3
import HandS.HeadHook4
import HandS.Head0
import KE.KStateDown
import Lean
import HandS.Head1
import HandS.Head2
import HandS.EndBits
import PySem.Challenge.RW_cutbehind_k75_whole_feeders_of_parted_te
-- part B0
set_option Elab.async false
set_option linter.all false
set_option maxRecDepth 100000
set_option maxHeartbeats 4000000
namespace K75
open PySem PySem.Spec PyProof.Rows L2
/-! the text by places -/
def topS (i : Nat) : Stmt := PySem.Challenge.pw_cutbehind_k75_whole_feeders_of_parted_te.main.body.getD i (.Pass ⟨0, 0, 0, 0⟩)
/-- a def of the module under its own name, without defaults -/
def DefF (K : PySem.W.Frag) (mg : Str → Option Value) (x : Str) (st : Stmt) : Prop :=
  ∃ f fd, FunD K x x (defArgs st) (defBody st) (defScope st) [] [] f fd ∧ mg x = some (.ref f)
/-- a callable by its body -/
theorem cal_of {P : Program} {w : World} {K : PySem.W.Frag} {mg : Str → Option Value} {base : Heap} {x : Str} {st : Stmt} {N ps : List Str} {k : Nat} {sp : Sp} (F : DefF K mg x st) (S : FnScope N ps (defScope st))
    (hb : ∀ (kV doc pm : Value) (an : Option Addr) (cdv ct : Value) (us : List Value), us.length = ps.length → bindArgs (PySem.W.fnOf x x (defArgs st) (defBody st) (defScope st) .none kV doc pm an cdv ct) ⟨us, []⟩ = pure (ps.zip us))
    (len : ∀ vs H Q E, sp vs H Q E → vs.length = ps.length)
    (hbody : ∀ (cdv : Value) (A : Around) (outer : List Env) (f : Addr) (s : Shared) (H : Hp) (vs : List V) (Q : VK) (E : XK), Room k (A.deeper (envOfC x (defScope st) s.heap.objs.size f cdv)) → sp vs H Q E →
      ∃ t, PSs (cxOf CX0 P w K mg base N x (defScope st) f cdv A outer s H E).nox (defBody st) t ∧ t { nx := fun _ H' => Q .non H', rt := Q } (start N vs) H) : C8.Cal P w K mg base (k + 1) x sp [] := by
  obtain ⟨f, fd, F, hm⟩ := F
  refine ⟨f, fd, ps, [], F.ok S len (fun cdv A outer s H vs Q E hr h => ?_), hm, F.kp, F.bindsN hb, .nil⟩
  obtain ⟨t, ht, q⟩ := hbody cdv A outer f s H vs Q E hr h
  exact ⟨t, ht.nox, q⟩
/-! heaps -/
/-- all but what stands at the addresses of D is kept -/
def Kp (D : List Addr) (H H' : Hp) : Prop := ∀ b o, H b = some o → b ∉ D → H' b = some o
/-- the reel: a list of three ints -/
def Reel (H : Hp) (r : Addr) : Prop := ∃ a b c : Int, H r = some (.lst [.int a, .int b, .int c])
end K75
-- part B1
set_option Elab.async false
set_option linter.all false
set_option maxRecDepth 100000
set_option maxHeartbeats 4000000
namespace K75
open PySem PySem.Spec PyProof.Rows L2
/-- a method of the class at C, without defaults -/
def MethF (K : PySem.W.Frag) (C : Addr) (m qual : Str) (st : Stmt) : Prop :=
  ∃ f fd, FunD K m qual (defArgs st) (defBody st) (defScope st) [] [] f fd ∧ Meth K C m f
/-- a method by its body -/
theorem met_of {P : Program} {w : World} {K : PySem.W.Frag} {mg : Str → Option Value} {base : Heap} {m qual : Str} {C : Addr} {st : Stmt} {N ps : List Str} {k : Nat} {sp : Sp} (F : MethF K C m qual st) (c : Cls K C) (S : FnScope N ps (defScope st))
    (hb : ∀ (kV doc pm : Value) (an : Option Addr) (cdv ct : Value) (us : List Value), us.length = ps.length → bindArgs (PySem.W.fnOf m qual (defArgs st) (defBody st) (defScope st) .none kV doc pm an cdv ct) ⟨us, []⟩ = pure (ps.zip us))
    (len : ∀ vs H Q E, sp vs H Q E → vs.length = ps.length)
    (hbody : ∀ (cdv : Value) (A : Around) (outer : List Env) (f : Addr) (s : Shared) (H : Hp) (vs : List V) (Q : VK) (E : XK), Room k (A.deeper (envOfC qual (defScope st) s.heap.objs.size f cdv)) → sp vs H Q E →
      ∃ t, PSs (cxOf CX0 P w K mg base N qual (defScope st) f cdv A outer s H E).nox (defBody st) t ∧ t { nx := fun _ H' => Q .non H', rt := Q } (start N vs) H) : C8.Met P w K mg base (k + 1) C m sp [] := by
  obtain ⟨f, fd, F, hm⟩ := F
  refine ⟨f, fd, ps, [], c, hm, F.ok S len (fun cdv A outer s H vs Q E hr h => ?_), F.bindsN hb, .nil⟩
  obtain ⟨t, ht, q⟩ := hbody cdv A outer f s H vs Q E hr h
  exact ⟨t, ht.nox, q⟩
abbrev s_p_is_integer : Stmt := topS 4
abbrev N_p_is_integer : List Str := ["value"]
theorem sc_p_is_integer : FnScope N_p_is_integer ["value"] (defScope s_p_is_integer) := ⟨rfl, rfl, rfl, by decide +kernel, rfl, by decide +kernel, by decide +kernel⟩

abbrev s_p_is_integer_within : Stmt := topS 5
abbrev N_p_is_integer_within : List Str := ["value", "least", "most"]
theorem sc_p_is_integer_within : FnScope N_p_is_integer_within ["value", "least", "most"] (defScope s_p_is_integer_within) := ⟨rfl, rfl, rfl, by decide +kernel, rfl, by decide +kernel, by decide +kernel⟩

abbrev s_p_is_word : Stmt := topS 6
abbrev N_p_is_word : List Str := ["value", "letter"]
theorem sc_p_is_word : FnScope N_p_is_word ["value"] (defScope s_p_is_word) := ⟨rfl, rfl, rfl, by decide +kernel, rfl, by decide +kernel, by decide +kernel⟩

abbrev s_p_is_text : Stmt := topS 7
abbrev N_p_is_text : List Str := ["value"]
theorem sc_p_is_text : FnScope N_p_is_text ["value"] (defScope s_p_is_text) := ⟨rfl, rfl, rfl, by decide +kernel, rfl, by decide +kernel, by decide +kernel⟩

abbrev s_p_is_piece : Stmt := topS 8
abbrev N_p_is_piece : List Str := ["value"]
theorem sc_p_is_piece : FnScope N_p_is_piece ["value"] (defScope s_p_is_piece) := ⟨rfl, rfl, rfl, by decide +kernel, rfl, by decide +kernel, by decide +kernel⟩

abbrev s_p_is_price : Stmt := topS 23
abbrev N_p_is_price : List Str := ["value"]
theorem sc_p_is_price : FnScope N_p_is_price ["value"] (defScope s_p_is_price) := ⟨rfl, rfl, rfl, by decide +kernel, rfl, by decide +kernel, by decide +kernel⟩

abbrev s_p_are_prices : Stmt := topS 24
abbrev N_p_are_prices : List Str := ["value", "piece", "sign", "price"]
theorem sc_p_are_prices : FnScope N_p_are_prices ["value"] (defScope s_p_are_prices) := ⟨rfl, rfl, rfl, by decide +kernel, rfl, by decide +kernel, by decide +kernel⟩

abbrev s_p_is_text_over : Stmt := topS 27
abbrev N_p_is_text_over : List Str := ["book", "value", "sign"]
theorem sc_p_is_text_over : FnScope N_p_is_text_over ["book", "value"] (defScope s_p_is_text_over) := ⟨rfl, rfl, rfl, by decide +kernel, rfl, by decide +kernel, by decide +kernel⟩

abbrev s_p_require_book : Stmt := topS 28
abbrev N_p_require_book : List Str := ["value"]
theorem sc_p_require_book : FnScope N_p_require_book ["value"] (defScope s_p_require_book) := ⟨rfl, rfl, rfl, by decide +kernel, rfl, by decide +kernel, by decide +kernel⟩

abbrev s_p_require_text : Stmt := topS 29
abbrev N_p_require_text : List Str := ["book", "value"]
theorem sc_p_require_text : FnScope N_p_require_text ["book", "value"] (defScope s_p_require_text) := ⟨rfl, rfl, rfl, by decide +kernel, rfl, by decide +kernel, by decide +kernel⟩

abbrev s_p_prices_along : Stmt := topS 34
abbrev N_p_prices_along : List Str := ["book", "text", "found", "stop", "best", "start", "price"]
theorem sc_p_prices_along : FnScope N_p_prices_along ["book", "text"] (defScope s_p_prices_along) := ⟨rfl, rfl, rfl, by decide +kernel, rfl, by decide +kernel, by decide +kernel⟩

abbrev s_p_cheapest_price_in : Stmt := topS 35
abbrev N_p_cheapest_price_in : List Str := ["book", "text"]
theorem sc_p_cheapest_price_in : FnScope N_p_cheapest_price_in ["book", "text"] (defScope s_p_cheapest_price_in) := ⟨rfl, rfl, rfl, by decide +kernel, rfl, by decide +kernel, by decide +kernel⟩

abbrev s_p_is_order : Stmt := topS 39
abbrev N_p_is_order : List Str := ["book", "value", "piece"]
theorem sc_p_is_order : FnScope N_p_is_order ["book", "value"] (defScope s_p_is_order) := ⟨rfl, rfl, rfl, by decide +kernel, rfl, by decide +kernel, by decide +kernel⟩

abbrev s_p_is_view : Stmt := topS 40
abbrev N_p_is_view : List Str := ["value"]
theorem sc_p_is_view : FnScope N_p_is_view ["value"] (defScope s_p_is_view) := ⟨rfl, rfl, rfl, by decide +kernel, rfl, by decide +kernel, by decide +kernel⟩

abbrev s_p_is_table : Stmt := topS 41
abbrev N_p_is_table : List Str := ["book", "value", "most", "text", "piece"]
theorem sc_p_is_table : FnScope N_p_is_table ["book", "value", "most"] (defScope s_p_is_table) := ⟨rfl, rfl, rfl, by decide +kernel, rfl, by decide +kernel, by decide +kernel⟩

abbrev s_p_require_cutter : Stmt := topS 42
abbrev N_p_require_cutter : List Str := ["value"]
theorem sc_p_require_cutter : FnScope N_p_require_cutter ["value"] (defScope s_p_require_cutter) := ⟨rfl, rfl, rfl, by decide +kernel, rfl, by decide +kernel, by decide +kernel⟩

abbrev s_reel_of : Stmt := topS 48
abbrev N_reel_of : List Str := ["script", "spot", "cell", "great", "blend"]
theorem sc_reel_of : FnScope N_reel_of ["script", "spot"] (defScope s_reel_of) := ⟨rfl, rfl, rfl, by decide +kernel, rfl, by decide +kernel, by decide +kernel⟩

abbrev s_spin : Stmt := topS 49
abbrev N_spin : List Str := ["reel", "total", "found", "one", "two"]
theorem sc_spin : FnScope N_spin ["reel", "total"] (defScope s_spin) := ⟨rfl, rfl, rfl, by decide +kernel, rfl, by decide +kernel, by decide +kernel⟩

abbrev s_pick : Stmt := topS 50
abbrev N_pick : List Str := ["reel", "items"]
theorem sc_pick : FnScope N_pick ["reel", "items"] (defScope s_pick) := ⟨rfl, rfl, rfl, by decide +kernel, rfl, by decide +kernel, by decide +kernel⟩

abbrev s_mixed : Stmt := topS 51
abbrev N_mixed : List Str := ["reel", "items", "left", "found"]
theorem sc_mixed : FnScope N_mixed ["reel", "items"] (defScope s_mixed) := ⟨rfl, rfl, rfl, by decide +kernel, rfl, by decide +kernel, by decide +kernel⟩

abbrev s_letters : Stmt := topS 52
abbrev N_letters : List Str := ["reel", "size", "left", "found", "turn"]
theorem sc_letters : FnScope N_letters ["reel", "size"] (defScope s_letters) := ⟨rfl, rfl, rfl, by decide +kernel, rfl, by decide +kernel, by decide +kernel⟩

abbrev s_drawn_text : Stmt := topS 53
abbrev N_drawn_text : List Str := ["reel", "signs", "size", "spot"]
theorem sc_drawn_text : FnScope N_drawn_text ["reel", "signs", "size"] (defScope s_drawn_text) := ⟨rfl, rfl, rfl, by decide +kernel, rfl, by decide +kernel, by decide +kernel⟩

abbrev s_drawn_book : Stmt := topS 54
abbrev N_drawn_book : List Str := ["reel", "signs", "found", "kind", "dear", "sign", "one", "two", "turn", "piece"]
theorem sc_drawn_book : FnScope N_drawn_book ["reel"] (defScope s_drawn_book) := ⟨rfl, rfl, rfl, by decide +kernel, rfl, by decide +kernel, by decide +kernel⟩

abbrev s_signs_of : Stmt := topS 55
abbrev N_signs_of : List Str := ["book", "piece"]
theorem sc_signs_of : FnScope N_signs_of ["book"] (defScope s_signs_of) := ⟨rfl, rfl, rfl, by decide +kernel, rfl, by decide +kernel, by decide +kernel⟩

abbrev s_starting : Stmt := topS 56
abbrev N_starting : List Str := ["book", "text", "piece"]
theorem sc_starting : FnScope N_starting ["book", "text"] (defScope s_starting) := ⟨rfl, rfl, rfl, by decide +kernel, rfl, by decide +kernel, by decide +kernel⟩

abbrev s_prices_along : Stmt := topS 57
abbrev N_prices_along : List Str := ["book", "text", "found", "stop", "here", "piece"]
theorem sc_prices_along : FnScope N_prices_along ["book", "text"] (defScope s_prices_along) := ⟨rfl, rfl, rfl, by decide +kernel, rfl, by decide +kernel, by decide +kernel⟩

abbrev s_tell : Stmt := topS 58
abbrev N_tell : List Str := ["plain", "window", "is_last", "size", "piece"]
theorem sc_tell : FnScope N_tell ["plain", "window", "is_last"] (defScope s_tell) := ⟨rfl, rfl, rfl, by decide +kernel, rfl, by decide +kernel, by decide +kernel⟩

abbrev s_cut : Stmt := topS 59
abbrev N_cut : List Str := ["plain", "text", "found", "rest", "window"]
theorem sc_cut : FnScope N_cut ["plain", "text"] (defScope s_cut) := ⟨rfl, rfl, rfl, by decide +kernel, rfl, by decide +kernel, by decide +kernel⟩

abbrev s_hasty : Stmt := topS 60
abbrev N_hasty : List Str := ["reel", "book", "span", "hints", "text", "near", "rows", "last", "turn"]
theorem sc_hasty : FnScope N_hasty ["reel", "book", "span", "hints"] (defScope s_hasty) := ⟨rfl, rfl, rfl, by decide +kernel, rfl, by decide +kernel, by decide +kernel⟩

abbrev s_run : Stmt := topS 61
abbrev N_run : List Str := ["plain", "text", "told", "rest"]
theorem sc_run : FnScope N_run ["plain", "text"] (defScope s_run) := ⟨rfl, rfl, rfl, by decide +kernel, rfl, by decide +kernel, by decide +kernel⟩

abbrev s_is_told : Stmt := topS 62
abbrev N_is_told : List Str := ["feeder", "book", "told", "rest", "text", "is_last", "paid", "due", "row", "late", "piece"]
theorem sc_is_told : FnScope N_is_told ["feeder", "book", "told", "rest", "text", "is_last"] (defScope s_is_told) := ⟨rfl, rfl, rfl, by decide +kernel, rfl, by decide +kernel, by decide +kernel⟩

abbrev s_parts : Stmt := topS 63
abbrev N_parts : List Str := ["reel", "text", "found", "rest", "turn", "size"]
theorem sc_parts : FnScope N_parts ["reel", "text"] (defScope s_parts) := ⟨rfl, rfl, rfl, by decide +kernel, rfl, by decide +kernel, by decide +kernel⟩

abbrev s_cutter_of : Stmt := topS 64
abbrev N_cutter_of : List Str := ["made", "plain", "first"]
theorem sc_cutter_of : FnScope N_cutter_of ["made", "plain"] (defScope s_cutter_of) := ⟨rfl, rfl, rfl, by decide +kernel, rfl, by decide +kernel, by decide +kernel⟩

abbrev s_right : Stmt := topS 65
abbrev N_right : List Str := ["reel", "book", "plain", "cutter", "feeder", "other", "text", "told", "rest", "part", "before", "sign", "whole"]
theorem sc_right : FnScope N_right ["reel"] (defScope s_right) := ⟨rfl, rfl, rfl, by decide +kernel, rfl, by decide +kernel, by decide +kernel⟩

abbrev s_law : Stmt := topS 66
abbrev N_law : List Str := ["script", "spot", "reel", "far", "feeder", "told"]
theorem sc_law : FnScope N_law ["script"] (defScope s_law) := ⟨rfl, rfl, rfl, by decide +kernel, rfl, by decide +kernel, by decide +kernel⟩

abbrev s_p_Book___init__ : Stmt := inClass (topS 32) 0
abbrev N_p_Book___init__ : List Str := ["self", "prices", "piece"]
theorem sc_p_Book___init__ : FnScope N_p_Book___init__ ["self", "prices"] (defScope s_p_Book___init__) := ⟨rfl, rfl, rfl, by decide +kernel, rfl, by decide +kernel, by decide +kernel⟩

abbrev s_p_Book_accepts : Stmt := inClass (topS 32) 7
abbrev N_p_Book_accepts : List Str := ["self", "value"]
theorem sc_p_Book_accepts : FnScope N_p_Book_accepts ["self", "value"] (defScope s_p_Book_accepts) := ⟨rfl, rfl, rfl, by decide +kernel, rfl, by decide +kernel, by decide +kernel⟩

abbrev s_p_Book___eq__ : Stmt := inClass (topS 32) 17
abbrev N_p_Book___eq__ : List Str := ["self", "other"]
theorem sc_p_Book___eq__ : FnScope N_p_Book___eq__ ["self", "other"] (defScope s_p_Book___eq__) := ⟨rfl, rfl, rfl, by decide +kernel, rfl, by decide +kernel, by decide +kernel⟩

abbrev s_p_Cutter___init__ : Stmt := inClass (topS 43) 0
abbrev N_p_Cutter___init__ : List Str := ["self", "book", "order", "view", "table", "ends", "text"]
theorem sc_p_Cutter___init__ : FnScope N_p_Cutter___init__ ["self", "book", "order", "view", "table", "ends"] (defScope s_p_Cutter___init__) := ⟨rfl, rfl, rfl, by decide +kernel, rfl, by decide +kernel, by decide +kernel⟩

abbrev s_p_Cutter_told_by : Stmt := inClass (topS 43) 8
abbrev N_p_Cutter_told_by : List Str := ["self", "window", "is_ended", "size", "piece"]
theorem sc_p_Cutter_told_by : FnScope N_p_Cutter_told_by ["self", "window", "is_ended"] (defScope s_p_Cutter_told_by) := ⟨rfl, rfl, rfl, by decide +kernel, rfl, by decide +kernel, by decide +kernel⟩

abbrev s_p_Cutter_cut_in : Stmt := inClass (topS 43) 9
abbrev N_p_Cutter_cut_in : List Str := ["self", "text", "found", "at", "window"]
theorem sc_p_Cutter_cut_in : FnScope N_p_Cutter_cut_in ["self", "text"] (defScope s_p_Cutter_cut_in) := ⟨rfl, rfl, rfl, by decide +kernel, rfl, by decide +kernel, by decide +kernel⟩

abbrev s_p_Cutter_price_in : Stmt := inClass (topS 43) 10
abbrev N_p_Cutter_price_in : List Str := ["self", "text", "piece"]
theorem sc_p_Cutter_price_in : FnScope N_p_Cutter_price_in ["self", "text"] (defScope s_p_Cutter_price_in) := ⟨rfl, rfl, rfl, by decide +kernel, rfl, by decide +kernel, by decide +kernel⟩

abbrev s_p_Cutter_cut : Stmt := inClass (topS 43) 12
abbrev N_p_Cutter_cut : List Str := ["self", "text"]
theorem sc_p_Cutter_cut : FnScope N_p_Cutter_cut ["self", "text"] (defScope s_p_Cutter_cut) := ⟨rfl, rfl, rfl, by decide +kernel, rfl, by decide +kernel, by decide +kernel⟩

abbrev s_p_Cutter_behind : Stmt := inClass (topS 43) 15
abbrev N_p_Cutter_behind : List Str := ["self", "text"]
theorem sc_p_Cutter_behind : FnScope N_p_Cutter_behind ["self", "text"] (defScope s_p_Cutter_behind) := ⟨rfl, rfl, rfl, by decide +kernel, rfl, by decide +kernel, by decide +kernel⟩

abbrev s_p_Cutter___eq__ : Stmt := inClass (topS 43) 20
abbrev N_p_Cutter___eq__ : List Str := ["self", "value"]
theorem sc_p_Cutter___eq__ : FnScope N_p_Cutter___eq__ ["self", "value"] (defScope s_p_Cutter___eq__) := ⟨rfl, rfl, rfl, by decide +kernel, rfl, by decide +kernel, by decide +kernel⟩

abbrev s_p_Cutter___call__ : Stmt := inClass (topS 43) 13
abbrev N_p_Cutter___call__ : List Str := ["self", "text"]
theorem sc_p_Cutter___call__ : FnScope N_p_Cutter___call__ ["self", "text"] (defScope s_p_Cutter___call__) := ⟨rfl, rfl, rfl, by decide +kernel, rfl, by decide +kernel, by decide +kernel⟩

abbrev s_p_Cutter_longest_first : Stmt := inClass (topS 43) 1
abbrev N_p_Cutter_longest_first : List Str := ["cls", "book"]
theorem sc_p_Cutter_longest_first : FnScope N_p_Cutter_longest_first ["cls", "book"] (defScope s_p_Cutter_longest_first) := ⟨rfl, rfl, rfl, by decide +kernel, rfl, by decide +kernel, by decide +kernel⟩

abbrev s_p_Feeder___init__ : Stmt := inClass (topS 46) 0
abbrev N_p_Feeder___init__ : List Str := ["self", "cutter"]
theorem sc_p_Feeder___init__ : FnScope N_p_Feeder___init__ ["self", "cutter"] (defScope s_p_Feeder___init__) := ⟨rfl, rfl, rfl, by decide +kernel, rfl, by decide +kernel, by decide +kernel⟩

abbrev s_p_Feeder_begin : Stmt := inClass (topS 46) 1
abbrev N_p_Feeder_begin : List Str := ["self", "source", "book"]
theorem sc_p_Feeder_begin : FnScope N_p_Feeder_begin ["self", "source", "book"] (defScope s_p_Feeder_begin) := ⟨rfl, rfl, rfl, by decide +kernel, rfl, by decide +kernel, by decide +kernel⟩

abbrev s_p_Feeder_more_told : Stmt := inClass (topS 46) 3
abbrev N_p_Feeder_more_told : List Str := ["self", "waiting", "signs", "found", "at", "text", "view"]
theorem sc_p_Feeder_more_told : FnScope N_p_Feeder_more_told ["self", "waiting", "signs"] (defScope s_p_Feeder_more_told) := ⟨rfl, rfl, rfl, by decide +kernel, rfl, by decide +kernel, by decide +kernel⟩

abbrev s_p_Feeder_last_told : Stmt := inClass (topS 46) 4
abbrev N_p_Feeder_last_told : List Str := ["self", "waiting"]
theorem sc_p_Feeder_last_told : FnScope N_p_Feeder_last_told ["self", "waiting"] (defScope s_p_Feeder_last_told) := ⟨rfl, rfl, rfl, by decide +kernel, rfl, by decide +kernel, by decide +kernel⟩

abbrev s_p_Feeder_go_on : Stmt := inClass (topS 46) 5
abbrev N_p_Feeder_go_on : List Str := ["self", "signs", "pieces", "is_last", "piece"]
theorem sc_p_Feeder_go_on : FnScope N_p_Feeder_go_on ["self", "signs", "pieces", "is_last"] (defScope s_p_Feeder_go_on) := ⟨rfl, rfl, rfl, by decide +kernel, rfl, by decide +kernel, by decide +kernel⟩

abbrev s_p_Feeder_require_open : Stmt := inClass (topS 46) 6
abbrev N_p_Feeder_require_open : List Str := ["self"]
theorem sc_p_Feeder_require_open : FnScope N_p_Feeder_require_open ["self"] (defScope s_p_Feeder_require_open) := ⟨rfl, rfl, rfl, by decide +kernel, rfl, by decide +kernel, by decide +kernel⟩

abbrev s_p_Feeder_feed : Stmt := inClass (topS 46) 7
abbrev N_p_Feeder_feed : List Str := ["self", "signs"]
theorem sc_p_Feeder_feed : FnScope N_p_Feeder_feed ["self", "signs"] (defScope s_p_Feeder_feed) := ⟨rfl, rfl, rfl, by decide +kernel, rfl, by decide +kernel, by decide +kernel⟩

abbrev s_p_Feeder_end : Stmt := inClass (topS 46) 8
abbrev N_p_Feeder_end : List Str := ["self"]
theorem sc_p_Feeder_end : FnScope N_p_Feeder_end ["self"] (defScope s_p_Feeder_end) := ⟨rfl, rfl, rfl, by decide +kernel, rfl, by decide +kernel, by decide +kernel⟩

abbrev s_p_Feeder_behind : Stmt := inClass (topS 46) 19
abbrev N_p_Feeder_behind : List Str := ["self", "rest", "whole"]
theorem sc_p_Feeder_behind : FnScope N_p_Feeder_behind ["self"] (defScope s_p_Feeder_behind) := ⟨rfl, rfl, rfl, by decide +kernel, rfl, by decide +kernel, by decide +kernel⟩

abbrev s_p_Feeder___eq__ : Stmt := inClass (topS 46) 25
abbrev N_p_Feeder___eq__ : List Str := ["self", "value"]
theorem sc_p_Feeder___eq__ : FnScope N_p_Feeder___eq__ ["self", "value"] (defScope s_p_Feeder___eq__) := ⟨rfl, rfl, rfl, by decide +kernel, rfl, by decide +kernel, by decide +kernel⟩

abbrev s_p_Feeder___iadd__ : Stmt := inClass (topS 46) 20
abbrev N_p_Feeder___iadd__ : List Str := ["self", "signs"]
theorem sc_p_Feeder___iadd__ : FnScope N_p_Feeder___iadd__ ["self", "signs"] (defScope s_p_Feeder___iadd__) := ⟨rfl, rfl, rfl, by decide +kernel, rfl, by decide +kernel, by decide +kernel⟩

abbrev s_p_Feeder___len__ : Stmt := inClass (topS 46) 23
abbrev N_p_Feeder___len__ : List Str := ["self"]
theorem sc_p_Feeder___len__ : FnScope N_p_Feeder___len__ ["self"] (defScope s_p_Feeder___len__) := ⟨rfl, rfl, rfl, by decide +kernel, rfl, by decide +kernel, by decide +kernel⟩

abbrev s_p_Feeder___bool__ : Stmt := inClass (topS 46) 24
abbrev N_p_Feeder___bool__ : List Str := ["self"]
theorem sc_p_Feeder___bool__ : FnScope N_p_Feeder___bool__ ["self"] (defScope s_p_Feeder___bool__) := ⟨rfl, rfl, rfl, by decide +kernel, rfl, by decide +kernel, by decide +kernel⟩

abbrev s_p_Feeder_told : Stmt := inClass (topS 46) 13
abbrev N_p_Feeder_told : List Str := ["self"]
theorem sc_p_Feeder_told : FnScope N_p_Feeder_told ["self"] (defScope s_p_Feeder_told) := ⟨rfl, rfl, rfl, by decide +kernel, rfl, by decide +kernel, by decide +kernel⟩

abbrev s_p_Feeder_waiting : Stmt := inClass (topS 46) 14
abbrev N_p_Feeder_waiting : List Str := ["self"]
theorem sc_p_Feeder_waiting : FnScope N_p_Feeder_waiting ["self"] (defScope s_p_Feeder_waiting) := ⟨rfl, rfl, rfl, by decide +kernel, rfl, by decide +kernel, by decide +kernel⟩

abbrev s_p_Feeder_text : Stmt := inClass (topS 46) 15
abbrev N_p_Feeder_text : List Str := ["self"]
theorem sc_p_Feeder_text : FnScope N_p_Feeder_text ["self"] (defScope s_p_Feeder_text) := ⟨rfl, rfl, rfl, by decide +kernel, rfl, by decide +kernel, by decide +kernel⟩

abbrev s_p_Feeder_spent : Stmt := inClass (topS 46) 16
abbrev N_p_Feeder_spent : List Str := ["self", "piece"]
theorem sc_p_Feeder_spent : FnScope N_p_Feeder_spent ["self"] (defScope s_p_Feeder_spent) := ⟨rfl, rfl, rfl, by decide +kernel, rfl, by decide +kernel, by decide +kernel⟩

abbrev s_p_Feeder_is_ended : Stmt := inClass (topS 46) 17
abbrev N_p_Feeder_is_ended : List Str := ["self"]
theorem sc_p_Feeder_is_ended : FnScope N_p_Feeder_is_ended ["self"] (defScope s_p_Feeder_is_ended) := ⟨rfl, rfl, rfl, by decide +kernel, rfl, by decide +kernel, by decide +kernel⟩

/-- what the walk asks of the top: CB Book, CC Cutter, CF Feeder -/
structure Tx (K : PySem.W.Frag) (mg : Str → Option Value) (CB CC CF : Addr) : Prop where
  n_int : mg "int" = none
  n_len : mg "len" = none
  n_abs : mg "abs" = none
  n_max : mg "max" = none
  n_min : mg "min" = none
  n_sum : mg "sum" = none
  n_all : mg "all" = none
  n_list : mg "list" = none
  n_tuple : mg "tuple" = none
  n_dict : mg "dict" = none
  n_sorted : mg "sorted" = none
  n_range : mg "range" = none
  n_isinstance : mg "isinstance" = none
  n_bool : mg "bool" = none
  n_str : mg "str" = none
  n_repr : mg "repr" = none
  g_TEXT_SIGNS : ∃ t, mg "TEXT_SIGNS" = some (.int 8000 t)
  g_PIECE_SIGNS : ∃ t, mg "PIECE_SIGNS" = some (.int 5 t)
  g_MAX_PIECES : ∃ t, mg "MAX_PIECES" = some (.int 12 t)
  g_MAX_ALPHABET : ∃ t, mg "MAX_ALPHABET" = some (.int 4 t)
  g_MAX_PRICE : ∃ t, mg "MAX_PRICE" = some (.int 99 t)
  g_MAX_VIEW : ∃ t, mg "MAX_VIEW" = some (.int 2000 t)
  g_MAX_WINDOWS : ∃ t, mg "MAX_WINDOWS" = some (.int 2000 t)
  g_MAX_FED : ∃ t, mg "MAX_FED" = some (.int 8000 t)
  d_p_is_integer : DefF K mg "is_integer" s_p_is_integer
  d_p_is_integer_within : DefF K mg "is_integer_within" s_p_is_integer_within
  d_p_is_word : DefF K mg "is_word" s_p_is_word
  d_p_is_text : DefF K mg "is_text" s_p_is_text
  d_p_is_piece : DefF K mg "is_piece" s_p_is_piece
  d_p_is_price : DefF K mg "is_price" s_p_is_price
  d_p_are_prices : DefF K mg "are_prices" s_p_are_prices
  d_p_is_text_over : DefF K mg "is_text_over" s_p_is_text_over
  d_p_require_book : DefF K mg "require_book" s_p_require_book
  d_p_require_text : DefF K mg "require_text" s_p_require_text
  d_p_prices_along : DefF K mg "prices_along" s_p_prices_along
  d_p_cheapest_price_in : DefF K mg "cheapest_price_in" s_p_cheapest_price_in
  d_p_is_order : DefF K mg "is_order" s_p_is_order
  d_p_is_view : DefF K mg "is_view" s_p_is_view
  d_p_is_table : DefF K mg "is_table" s_p_is_table
  d_p_require_cutter : DefF K mg "require_cutter" s_p_require_cutter
  d_reel_of : DefF K mg "_law_reel_of" s_reel_of
  d_spin : DefF K mg "_law_spin" s_spin
  d_pick : DefF K mg "_law_pick" s_pick
  d_mixed : DefF K mg "_law_mixed" s_mixed
  d_letters : DefF K mg "_law_letters" s_letters
  d_drawn_text : DefF K mg "_law_drawn_text" s_drawn_text
  d_drawn_book : DefF K mg "_law_drawn_book" s_drawn_book
  d_signs_of : DefF K mg "_law_signs_of" s_signs_of
  d_starting : DefF K mg "_law_starting" s_starting
  d_prices_along : DefF K mg "_law_prices_along" s_prices_along
  d_tell : DefF K mg "_law_tell" s_tell
  d_cut : DefF K mg "_law_cut" s_cut
  d_hasty : DefF K mg "_law_hasty" s_hasty
  d_run : DefF K mg "_law_run" s_run
  d_is_told : DefF K mg "_law_is_told" s_is_told
  d_parts : DefF K mg "_law_parts" s_parts
  d_cutter_of : DefF K mg "_law_cutter_of" s_cutter_of
  d_right : DefF K mg "_law_right" s_right
  d_law : DefF K mg "law" s_law
  g_Book : mg "Book" = some (.ref CB)
  cl_Book : Cls K CB
  no_Book_own_prices : NoAttr K CB "own_prices"
  no_Book_own_pieces : NoAttr K CB "own_pieces"
  no_Book_own_alphabet : NoAttr K CB "own_alphabet"
  no_Book_own_longest : NoAttr K CB "own_longest"
  no_Book_own_dearest : NoAttr K CB "own_dearest"
  m_Book_accepts : MethF K CB "accepts" "Book.accepts" s_p_Book_accepts
  g_Cutter : mg "Cutter" = some (.ref CC)
  cl_Cutter : Cls K CC
  no_Cutter_own_book : NoAttr K CC "own_book"
  no_Cutter_own_order : NoAttr K CC "own_order"
  no_Cutter_own_view : NoAttr K CC "own_view"
  no_Cutter_own_table : NoAttr K CC "own_table"
  no_Cutter_own_ends : NoAttr K CC "own_ends"
  no_Cutter_own_sizes : NoAttr K CC "own_sizes"
  m_Cutter_told_by : MethF K CC "told_by" "Cutter.told_by" s_p_Cutter_told_by
  m_Cutter_cut_in : MethF K CC "cut_in" "Cutter.cut_in" s_p_Cutter_cut_in
  m_Cutter_price_in : MethF K CC "price_in" "Cutter.price_in" s_p_Cutter_price_in
  m_Cutter_cut : MethF K CC "cut" "Cutter.cut" s_p_Cutter_cut
  m_Cutter_behind : MethF K CC "behind" "Cutter.behind" s_p_Cutter_behind
  g_Feeder : mg "Feeder" = some (.ref CF)
  cl_Feeder : Cls K CF
  no_Feeder_own_source : NoAttr K CF "own_source"
  no_Feeder_own_book : NoAttr K CF "own_book"
  no_Feeder_own_text : NoAttr K CF "own_text"
  no_Feeder_own_told : NoAttr K CF "own_told"
  no_Feeder_own_cut : NoAttr K CF "own_cut"
  no_Feeder_own_ended : NoAttr K CF "own_ended"
  no_Feeder_own_calls : NoAttr K CF "own_calls"
  m_Feeder_begin : MethF K CF "begin" "Feeder.begin" s_p_Feeder_begin
  m_Feeder_more_told : MethF K CF "more_told" "Feeder.more_told" s_p_Feeder_more_told
  m_Feeder_last_told : MethF K CF "last_told" "Feeder.last_told" s_p_Feeder_last_told
  m_Feeder_go_on : MethF K CF "go_on" "Feeder.go_on" s_p_Feeder_go_on
  m_Feeder_require_open : MethF K CF "require_open" "Feeder.require_open" s_p_Feeder_require_open
  m_Feeder_feed : MethF K CF "feed" "Feeder.feed" s_p_Feeder_feed
  m_Feeder_end : MethF K CF "end" "Feeder.end" s_p_Feeder_end
  m_Feeder_behind : MethF K CF "behind" "Feeder.behind" s_p_Feeder_behind
end K75
-- part D1
set_option Elab.async false
set_option linter.all false
set_option maxRecDepth 100000
set_option maxHeartbeats 4000000
namespace K75
open PySem PySem.Spec PyProof.Rows L2
/-! helps -/
theorem sqL_upd {K : PySem.W.Frag} {H : Hp} {p r : Addr} {o : HO} {xs : List V} (h : SqL K H p xs) (ne : p ≠ r) : SqL K (upd H r o) p xs := by
  rcases h with (h | ⟨u, h⟩) | h
  · exact .inl (.inl (by rw [upd_ne ne]; exact h))
  · exact .inl (.inr ⟨u, by rw [upd_ne ne]; exact h⟩)
  · exact .inr h
theorem sqT_upd {K : PySem.W.Frag} {H : Hp} {p r : Addr} {o : HO} {xs : List V} (h : SqT K H p xs) (ne : p ≠ r) : SqT K (upd H r o) p xs := by
  rcases h with (h | ⟨u, h⟩) | h
  · exact .inl (.inl (by rw [upd_ne ne]; exact h))
  · exact .inl (.inr ⟨u, by rw [upd_ne ne]; exact h⟩)
  · exact .inr h
theorem reel_upd {H : Hp} {r p : Addr} {o : HO} (h : Reel H r) (ne : r ≠ p) : Reel (upd H p o) r := by
  obtain ⟨a, b, c, e⟩ := h
  exact ⟨a, b, c, by rw [upd_ne ne]; exact e⟩
theorem reel_same {H : Hp} {r : Addr} (a b c : Int) : Reel (upd H r (.lst [.int a, .int b, .int c])) r := ⟨a, b, c, upd_same⟩
/-- powers of great numbers -/
def CPowW (i j : Int) : Prop := 0 ≤ j ∧ (Builtin.Int.intBits i : Int) * j ≤ 2 ^ 27
theorem op_powW {X : Cx} : OpR X (binaryOp .Pow) (rI CPowW fun i j => .int (i ^ j.toNat)) := opI fun _ _ _ _ _ _ _ hc q => pow_int hc.1 hc.2 q
section
variable {P : Program} {w : World} {K : PySem.W.Frag} {mg : Str → Option Value} {base : Heap} {CB CC CF : Addr}
/-! ### a number below a total -/
def sp_spin : Sp := fun vs H Q _ => ∃ (r : Addr) (n : Int), vs = [.ref r, .int n] ∧ Reel H r ∧ 0 < n ∧ n < 1000000 ∧
  ∀ (v a b c : Int), 0 ≤ v → v < n → Q (.int v) (upd H r (.lst [.int a, .int b, .int c]))
theorem c_spin (T : Tx K mg CB CC CF) : C8.Cal P w K mg base 1 "_law_spin" sp_spin [] := by
  refine cal_of T.d_spin sc_spin (fun _ _ _ _ _ _ us hl => match us, hl with | [_, _], _ => rfl) (fun vs H Q E h => ?_) (fun cdv A outer f s H vs Q E hr h => ?_)
  · obtain ⟨r, n, rfl, _⟩ := h
    rfl
  · obtain ⟨r, n, rfl, ⟨a, b, c, hR⟩, h0, h1, k⟩ := h
    have L := SqL.of (K := K) hR
    refine ⟨_, (pss_cons (ps_if (pt_cmpR op_gt (pe_ix ix_list (pv 0) pe_int (fun _ _ => rfl)) pe_int (nomark _))
    (pss_cons (ps_set (i := 2) sc_spin.nd rfl (Or.inl rfl) (pe_op op_mod (pe_callTy call_int1 (by rfl) T.n_int (by decide +kernel) (pa_cons (pe_ix ix_list (pv 0) pe_int (fun _ _ => rfl)) pa_nil)) (pv 1)))
    (pss_cons (ps_asg (pe_op op_fdivN (pe_ix ix_list (pv 0) pe_int (fun _ _ => rfl)) (pv 1)) (pg_sub (pv 0) pe_int set_list))
    (pss_one (ps_ret (pv 2)))))
    pss_nil)
  (pss_cons (ps_asg (pe_op op_add (pe_ix ix_list (pv 0) pe_int (fun _ _ => rfl)) pe_int) (pg_sub (pv 0) pe_int set_list))
  (pss_cons (ps_set (i := 3) sc_spin.nd rfl (Or.inl rfl) (pe_op op_mod (pe_callTy call_int1 (by rfl) T.n_int (by decide +kernel) (pa_cons (pe_op op_add (pe_ix ix_list (pv 0) pe_int (fun _ _ => rfl)) (pe_op op_mul pe_int (pe_ix ix_list (pv 0) pe_int (fun _ _ => rfl)))) pa_nil)) pe_int))
  (pss_cons (ps_set (i := 4) sc_spin.nd rfl (Or.inl rfl) (pe_op op_add (pe_op op_mul (pe_op op_mod (pe_callTy call_int1 (by rfl) T.n_int (by decide +kernel) (pa_cons (pe_op op_mul (pv 3) (pv 3)) pa_nil)) pe_int) (pv 3)) (pe_op op_mul pe_int (pe_ix ix_list (pv 0) pe_int (fun _ _ => rfl)))))
  (pss_one (ps_ret (pe_op op_mod (pe_callTy call_int1 (by rfl) T.n_int (by decide +kernel) (pa_cons (pe_op op_fdiv (pe_op op_mod (pe_callTy call_int1 (by rfl) T.n_int (by decide +kernel) (pa_cons (pe_op op_add (pv 4) (pe_ix ix_list (pv 0) pe_int (fun _ _ => rfl))) pa_nil)) pe_int) pe_int) pa_nil)) (pv 1)))))))), ?_⟩
    refine ⟨_, rfl, _, _, _, _, rfl, rfl, L, rfl, _, _, rfl, rfl, _, rfl, ite2 (fun hc => ?_) (fun hc => ?_)⟩
    · refine ⟨_, rfl, _, _, _, _, rfl, rfl, L, rfl, .inl ⟨_, rfl, _, rfl, _, _, rfl, rfl, h0, ?_⟩⟩
      refine ⟨_, rfl, _, _, _, _, rfl, rfl, L, rfl, _, rfl, _, _, rfl, rfl, ⟨by omega, by omega⟩, _, rfl, _, _, _, _, rfl, rfl, hR, rfl, _, rfl, ?_⟩
      exact k _ _ _ _ (Int.emod_nonneg _ (by omega)) (Int.emod_lt_of_pos _ h0)
    · have L2 : SqL K (upd H r (.lst [.int a, .int b, .int (c + 1)])) r [.int a, .int b, .int (c + 1)] := SqL.of upd_same
      refine ⟨_, rfl, _, _, _, _, rfl, rfl, L, rfl, _, _, rfl, rfl, _, rfl, _, _, _, _, rfl, rfl, hR, rfl, ?_⟩
      refine ⟨_, rfl, _, _, _, _, rfl, rfl, L2, rfl, _, rfl, _, _, _, _, rfl, rfl, L2, rfl, _, _, rfl, rfl, .inl ⟨by decide, by decide⟩, _, _, rfl, rfl, .inl ⟨_, rfl, _, _, rfl, rfl, (by show (0 : Int) < 2305843009213693951; decide), ?_⟩⟩
      have o1 : -(2 ^ 64) < (b + 961748927 * (c + 1)) % 2305843009213693951 := by omega
      have o2 : (b + 961748927 * (c + 1)) % 2305843009213693951 < 2 ^ 64 := by omega
      refine ⟨_, rfl, _, rfl, _, _, rfl, rfl, .inl ⟨o1, o2⟩, .inl ⟨_, rfl, _, _, rfl, rfl, (by show (0 : Int) < 1152921504606846899; decide), _, rfl, _, _, rfl, rfl, .inr ⟨o1, o2⟩, ?_⟩⟩
      refine ⟨_, rfl, _, _, _, _, rfl, rfl, L2, rfl, _, _, rfl, rfl, .inl ⟨by decide, by decide⟩, _, _, rfl, rfl, ?_⟩
      refine ⟨_, rfl, _, rfl, _, _, _, _, rfl, rfl, L2, rfl, _, _, rfl, rfl, .inl ⟨_, rfl, _, _, rfl, rfl, (by show (0 : Int) < 4398046511119; decide), _, _, rfl, rfl, ⟨by decide, by decide⟩, .inl ⟨_, rfl, _, rfl, _, _, rfl, rfl, h0, ?_⟩⟩⟩
      exact k _ _ _ _ (Int.emod_nonneg _ (by omega)) (Int.emod_lt_of_pos _ h0)
/-! ### the reel of one turn -/
def sp_reel_of (K : PySem.W.Frag) : Sp := fun vs H Q _ => ∃ (a : Addr) (ns : List Int) (i : Nat), vs = [.ref a, .int i] ∧ SqL K H a (ns.map V.int) ∧ i ≤ 1000 ∧
  ∀ (p : Addr) (x y z : Int), H p = none → Q (.ref p) (upd H p (.lst [.int x, .int y, .int z]))
theorem c_reel_of (T : Tx K mg CB CC CF) : C8.Cal P w K mg base 1 "_law_reel_of" (sp_reel_of K) [] := by
  refine cal_of T.d_reel_of sc_reel_of (fun _ _ _ _ _ _ us hl => match us, hl with | [_, _], _ => rfl) (fun vs H Q E h => ?_) (fun cdv A outer f s H vs Q E hr h => ?_)
  · obtain ⟨r, n, i, rfl, _⟩ := h
    rfl
  · obtain ⟨a, ns, i, rfl, L, hi, k⟩ := h
    refine ⟨_, (C8.pss_cut (ps_set (i := 2) sc_reel_of.nd rfl (Or.inl rfl) (pe_ifExp (pt_cmpR op_lt (pv 1) (pe_callB call_len_seq (by rfl) T.n_len (by decide +kernel) (pa_cons (pv 0) pa_nil)) (nomark _)) (pe_ix ix_list (pv 0) (pv 1) (fun _ _ => rfl)) (pe_op op_add (pe_op op_mul pe_int (pv 1)) pe_int)))
  (pss_cons (ps_set (i := 3) sc_reel_of.nd rfl (Or.inl rfl) (pe_op op_mod (pe_callTy call_int1 (by rfl) T.n_int (by decide +kernel) (pa_cons (pe_callB call_abs (by rfl) T.n_abs (by decide +kernel) (pa_cons (pv 2) pa_nil)) pa_nil)) (pe_op op_powW (pe_op op_pow pe_int pe_int) pe_int)))
  (pss_cons (ps_set (i := 4) sc_reel_of.nd rfl (Or.inl rfl) (pe_op op_add (pe_op op_add (pe_op op_add (pe_op op_mul (pv 3) pe_int) (pe_op op_mul pe_int (pv 1))) (pe_op op_mul pe_int (pe_callTy call_int1 (by rfl) T.n_int (by decide +kernel) (pa_cons (pe_cmpR op_lt (pv 2) pe_int (nomark _)) pa_nil)))) pe_int))
  (pss_one (ps_ret (pe_lst (pa_cons (pe_callB (call_max2 rfl) (by rfl) T.n_max (by decide +kernel) (pa_cons pe_int (pa_cons (pe_op op_sub (pv 3) (pe_op op_pow pe_int pe_int)) pa_nil))) (pa_cons (pe_op op_mod (pe_callTy call_int1 (by rfl) T.n_int (by decide +kernel) (pa_cons (pv 4) pa_nil)) pe_int) (pa_cons pe_int pa_nil))))))))), ?_⟩
    refine ⟨fun σ' H' => ∃ c : Int, σ' = [some (.ref a), some (.int (i : Int)), some (.int c), none, none] ∧ H' = H, ?_, ?_⟩
    · refine ⟨_, rfl, _, rfl, _, _, rfl, .inl L, _, _, rfl, rfl, _, rfl, ite2 (fun hc => ?_) (fun hc => ?_)⟩
      · have hlt : i < ns.length := by
          have := of_decide_eq_true hc
          simp only [List.length_map] at this
          omega
        exact ⟨_, rfl, _, rfl, _, _, _, V.int ns[i], rfl, rfl, L, atI_nat (by simp [hlt]), _, rfl, rfl⟩
      · exact ⟨_, rfl, _, _, rfl, rfl, .inl ⟨by decide, by decide⟩, _, _, rfl, rfl, _, rfl, rfl⟩
    · rintro σ' H' ⟨c, rfl, rfl⟩
      refine ⟨_, rfl, _, rfl, .inl ⟨_, rfl, _, _, rfl, rfl, ⟨by decide, by decide, by decide⟩, _, _, rfl, rfl, ⟨by decide, by decide +kernel⟩, _, _, rfl, rfl, (by show (0 : Int) < (10 ^ Int.toNat 58) ^ Int.toNat 10; decide +kernel), ?_⟩⟩
      refine ⟨_, rfl, _, _, rfl, rfl, .inr ⟨by decide, by decide⟩, _, rfl, _, _, rfl, rfl, .inl ⟨by decide, by decide⟩, _, _, rfl, rfl, _, rfl, _, _, rfl, rfl, .inr ⟨_, rfl, _, _, rfl, rfl, .inl ⟨by decide, by decide⟩, _, _, rfl, rfl, _, _, rfl, rfl, ?_⟩⟩
      refine ⟨_, rfl, _, _, rfl, rfl, ⟨by decide, by decide, by decide⟩, _, _, rfl, rfl, _, _, rfl, _, rfl, .inl ⟨_, rfl, _, _, rfl, rfl, (by show (0 : Int) < 2305843009213693973; decide), (by show 3 ≤ sizeLine; decide), fun p np => ?_⟩⟩
      exact k p _ _ _ np
/-! ### one of the items -/
def sp_pick (K : PySem.W.Frag) : Sp := fun vs H Q _ => ∃ (r p : Addr) (xs : List V), vs = [.ref r, .ref p] ∧ Reel H r ∧ SqL K H p xs ∧ p ≠ r ∧ xs ≠ [] ∧ xs.length ≤ 1000 ∧
  ∀ (x : V) (a b c : Int), x ∈ xs → Q x (upd H r (.lst [.int a, .int b, .int c]))
theorem c_pick (T : Tx K mg CB CC CF) : C8.Cal P w K mg base 2 "_law_pick" (sp_pick K) [] := by
  refine cal_of T.d_pick sc_pick (fun _ _ _ _ _ _ us hl => match us, hl with | [_, _], _ => rfl) (fun vs H Q E h => ?_) (fun cdv A outer f s H vs Q E hr h => ?_)
  · obtain ⟨r, n, i, rfl, _⟩ := h
    rfl
  · obtain ⟨r, p, xs, rfl, hR, L, ne, hx, hl, k⟩ := h
    have hp : 0 < xs.length := List.length_pos_iff.mpr hx
    refine ⟨_, (pss_one (ps_ret (pe_ix ix_list (pv 1) (C8.pe_c (c_spin T) hr (by decide) (by rfl) (pa_cons (pv 0) (pa_cons (pe_callB call_len_seq (by rfl) T.n_len (by decide +kernel) (pa_cons (pv 1) pa_nil)) pa_nil))) (fun _ _ => rfl)))), ?_⟩
    refine ⟨_, rfl, _, rfl, _, rfl, _, _, rfl, .inl L, _, _, rfl, hR, by omega, by omega, fun v a b c h0 h1 => ?_⟩
    obtain ⟨j, rfl⟩ : ∃ j : Nat, v = j := ⟨v.toNat, by omega⟩
    have hj : j < xs.length := by omega
    exact ⟨_, _, _, xs[j], rfl, rfl, sqL_upd L ne, atI_nat (by simp [hj]), k _ _ _ _ (List.getElem_mem hj)⟩
end
end K75
-- part D2
set_option Elab.async false
set_option linter.all false
set_option maxRecDepth 100000
set_option maxHeartbeats 4000000
namespace K75
open PySem PySem.Spec PyProof.Rows L2
/-! texts -/
abbrev Tx0 := List Nat
/-- a text of small letters -/
def Lt (t : Tx0) : Prop := ∀ c ∈ t, 97 ≤ c ∧ c ≤ 122
abbrev tv (t : Tx0) : V := .str (SX.S t)
theorem lt_ok {t : Tx0} (h : Lt t) : PyData.strOk (SX.S t) = true := by
  unfold PyData.strOk
  rw [← Array.all_toList, List.all_eq_true]
  intro c hc
  have := h c hc
  simp only [Bool.and_eq_true, Bool.or_eq_true, decide_eq_true_eq, Bool.not_eq_true', decide_eq_false_iff_not]
  omega
/-- a text, or a pair of a text and a number -/
def Itm (H : Hp) (x : V) : Prop := (∃ t, x = tv t ∧ Lt t) ∨ ∃ a t n, x = .ref a ∧ H a = some (.tup [tv t, .int n]) ∧ Lt t
theorem itm_one {K : PySem.W.Frag} {H : Hp} {x : V} (h : Itm H x) : ∃ d, Dp K H x d ∧ d.canLay0 = true ∧ d.depth ≤ 1 := by
  rcases h with ⟨t, rfl, hl⟩ | ⟨a, t, n, rfl, ha, hl⟩
  · exact ⟨.str (SX.S t), .str _, by simp only [PyData.canLay0]; exact lt_ok hl, by simp [PyData.depth]⟩
  · exact ⟨.tuple [.str (SX.S t), .int n], .tup (SqT.of ha) (.cons (.str _) (.cons (.int _) .nil)), by simp only [PyData.canLay0, PyData.canLayAll0, lt_ok hl, Bool.and_true], by simp [PyData.depth, PyData.depthAll]⟩
theorem itm_all {K : PySem.W.Frag} {H : Hp} : ∀ {xs : List V}, (∀ x ∈ xs, Itm H x) → ∃ ds, DpAll K H xs ds ∧ ds.length = xs.length ∧ PyData.canLayAll0 ds = true ∧ PyData.depthAll ds ≤ 1
  | [], _ => ⟨[], .nil, rfl, by simp only [PyData.canLayAll0], by simp [PyData.depthAll]⟩
  | x :: xs, h => by
    obtain ⟨d, h1, h2, h3⟩ := itm_one (K := K) (h x (List.mem_cons_self ..))
    obtain ⟨ds, g1, g2, g3, g4⟩ := itm_all (K := K) fun y hy => h y (List.mem_cons_of_mem _ hy)
    exact ⟨d :: ds, .cons h1 g1, by rw [List.length_cons, List.length_cons, g2], by simp only [PyData.canLayAll0, h2, g3, Bool.and_true], by simp only [PyData.depthAll]; omega⟩
theorem eqv_nil (ds : List PyData) : PyData.eqv (.list ds) (.list []) = decide (ds = []) := by
  cases ds with
  | nil => rfl
  | cons d ds => rfl
theorem shaped_list {ds : List PyData} (h : PyData.canLayAll0 ds = true) (h2 : PyData.depthAll ds ≤ 60) : SeqAt.shaped (.list ds) = true := by
  unfold SeqAt.shaped
  exact Bool.and_eq_true_iff.mpr ⟨by simp only [PyData.canLay0, h], decide_eq_true (by simp only [PyData.depth]; omega)⟩
theorem perm_erase {α : Type} : ∀ {l : List α} {j : Nat} (h : j < l.length), ([l[j]] ++ l.eraseIdx j).Perm l
  | [], _, h => absurd h (Nat.not_lt_zero _)
  | a :: l, 0, _ => List.Perm.refl _
  | a :: l, j + 1, h => by
    have hj : j < l.length := Nat.lt_of_succ_lt_succ h
    have ih := perm_erase hj
    show (l[j] :: a :: l.eraseIdx j).Perm (a :: l)
    exact (List.Perm.swap a l[j] _).trans (List.Perm.cons a ih)
theorem seq_ix {k n : Nat} (h : k < n) : seqIndex? (k : Int) n = some k := by
  unfold seqIndex?
  simp
  omega
theorem kp_refl {D : List Addr} (H : Hp) : Kp D H H := fun _ _ h _ => h
theorem Kp.trans {D : List Addr} {H H1 H2 : Hp} (a : Kp D H H1) (b : Kp D H1 H2) : Kp D H H2 := fun x o h n => b x o (a x o h n) n
/-- a change at a place that was free, or at one of D -/
theorem Kp.up {D : List Addr} {H H1 : Hp} {p : Addr} {o : HO} (a : Kp D H H1) (h : H p = none ∨ p ∈ D) : Kp D H (upd H1 p o) := fun x u hx n => by
  have : x ≠ p := by
    rintro rfl
    rcases h with h | h
    · rw [hx] at h; cases h
    · exact n h
  rw [upd_ne this]
  exact a x u hx n
section
variable {P : Program} {w : World} {K : PySem.W.Frag} {mg : Str → Option Value} {base : Heap} {CB CC CF : Addr}
theorem itm_kp {D : List Addr} {H H' : Hp} {x : V} (h : Itm H x) (k : Kp D H H') (hD : ∀ a xs, H a = some (.tup xs) → a ∉ D) : Itm H' x := by
  rcases h with h | ⟨a, t, n, e, ha, hl⟩
  · exact .inl h
  · exact .inr ⟨a, t, n, e, k _ _ ha (hD _ _ ha), hl⟩
/-! ### the items in a drawn order -/
def sp_mixed (K : PySem.W.Frag) : Sp := fun vs H Q _ => ∃ (r p : Addr) (xs : List V), vs = [.ref r, .ref p] ∧ Reel H r ∧ SqL K H p xs ∧ (∀ x ∈ xs, Itm H x) ∧ xs.length ≤ 1000 ∧
  ∀ (q : Addr) (ys : List V) (H' : Hp), H q = none → ys.Perm xs → Kp [r] H H' → Reel H' r → H' q = some (.lst ys) → Q (.ref q) H'
theorem c_mixed (T : Tx K mg CB CC CF) : C8.Cal P w K mg base 2 "_law_mixed" (sp_mixed K) [] := by
  refine cal_of T.d_mixed sc_mixed (fun _ _ _ _ _ _ us hl => match us, hl with | [_, _], _ => rfl) (fun vs H Q E h => ?_) (fun cdv A outer f s H vs Q E hr h => ?_)
  · obtain ⟨r, n, i, rfl, _⟩ := h
    rfl
  · obtain ⟨r, p, xs, rfl, hR, L, hI, hl, k⟩ := h
    obtain ⟨a0, b0, c0, hR0⟩ := id hR
    refine ⟨_, (pss_cons (ps_par (i := 2) (j := 3) (by rfl) sc_mixed.nd rfl rfl (by decide) rfl rfl (pa_cons (pe_callTy call_list_of (by rfl) T.n_list (by decide +kernel) (pa_cons (pv 1) pa_nil)) (pa_cons (pe_lst pa_nil) pa_nil)) (by rfl))
  (pss_cons (ps_while PassesOwn.never (pt_cmpR (op_neD hr.units) (pv 2) (pe_lst pa_nil) (nomark _))
    (pss_one (ps_expr (pe_bm PySem.F.plainAttrs_list PySem.F.slot_list_append PySem.F.type_list_append mt_append (pv 3) (pa_cons (pe_bm PySem.F.plainAttrs_list PySem.F.slot_list_pop PySem.F.type_list_pop mt_popAt (pv 2) (pa_cons (C8.pe_c (c_spin T) hr (by decide) (by rfl) (pa_cons (pv 0) (pa_cons (pe_callB call_len_seq (by rfl) T.n_len (by decide +kernel) (pa_cons (pv 2) pa_nil)) pa_nil))) pa_nil)) pa_nil)))))
  (pss_one (ps_ret (pv 3))))), ?_⟩
    refine ⟨_, rfl, p, xs, rfl, .inl L, fun l hl0 => ⟨by show 0 ≤ sizeLine; decide, fun q hq0 => ⟨_, _, rfl, ?_⟩⟩⟩
    have nrl : r ≠ l := ne_of_none hR0 hl0
    have nql : q ≠ l := by
      rintro rfl
      rw [upd_same] at hq0; cases hq0
    rw [upd_ne nql] at hq0
    have nrq : r ≠ q := ne_of_none hR0 hq0
    refine while_by (fun σ H' => ∃ ls fs, σ = [some (.ref r), some (.ref p), some (.ref l), some (.ref q)] ∧ (fs ++ ls).Perm xs ∧ Kp [r] H H' ∧ Reel H' r ∧ H' l = some (.lst ls) ∧ H' q = some (.lst fs))
      (fun σ H' => match H' l with | some (.lst ls) => ls.length | _ => 0) ⟨xs, [], rfl, List.Perm.refl _, ((kp_refl H).up (.inl hl0)).up (.inl hq0), reel_upd (reel_upd hR nrl) nrq, by rw [upd_ne nql.symm, upd_same], upd_same⟩ ?_ ?_
    · rintro σ H1 ⟨ls, fs, rfl, hp, hk, hR1, hl1, hq1⟩
      have hI1 : ∀ x ∈ ls, Itm H1 x := fun x hx => itm_kp (hI x (hp.mem_iff.mp (List.mem_append_right _ hx))) hk fun a xs ha hm => by
        have : a = r := by simpa using hm
        subst this
        rw [hR0] at ha; cases ha
      have hlen : fs.length + ls.length = xs.length := by rw [← List.length_append]; exact hp.length_eq
      refine ⟨_, rfl, by show 0 ≤ sizeLine; decide, fun e he => ?_⟩
      have nle : l ≠ e := ne_of_none hl1 he
      have nqe : q ≠ e := ne_of_none hq1 he
      have nre : r ≠ e := by
        obtain ⟨a, b, c, z⟩ := hR1
        exact ne_of_none z he
      have hI2 : ∀ x ∈ ls, Itm (upd H1 e (.lst [])) x := fun x hx => itm_kp (D := []) (hI1 x hx) ((kp_refl H1).up (.inl he)) fun _ _ _ h => by cases h
      obtain ⟨ds, g1, g2, g3, g4⟩ := itm_all (K := K) hI2
      refine ⟨.list ds, .list [], .lst (SqL.of (by rw [upd_ne nle]; exact hl1)) g1, .lst (SqL.of upd_same) .nil, shaped_list g3 (by omega), by decide, _, rfl, ?_⟩
      rw [eqv_nil]
      have hHe : H e = none := by
        cases z : H e with
        | none => rfl
        | some o =>
          have hne : e ∉ [r] := by simpa using nre.symm
          rw [hk e o z hne] at he; cases he
      cases hls : ls with
      | nil =>
        subst hls
        have e0 : ds = [] := List.length_eq_zero_iff.mp (by rw [g2]; rfl)
        rw [e0]
        show (if (!decide (([] : List PyData) = [])) = true then _ else _)
        rw [if_neg (by simp)]
        refine ⟨_, rfl, k q fs _ hq0 ?_ (hk.up (.inl hHe)) (reel_upd hR1 nre) (by rw [upd_ne nqe]; exact hq1)⟩
        simpa using hp
      | cons y ys =>
        have e0 : ds ≠ [] := by
          intro e0
          rw [e0, hls] at g2; cases g2
        show (if (!decide (ds = [])) = true then _ else _)
        rw [decide_eq_false e0]
        refine iteT ?_
        have hl2 : upd H1 e (.lst []) l = some (.lst ls) := by rw [upd_ne nle]; exact hl1
        have hq2 : upd H1 e (.lst []) q = some (.lst fs) := by rw [upd_ne nqe]; exact hq1
        have hpos : 0 < ls.length := by rw [hls]; exact Nat.succ_pos _
        refine ⟨_, rfl, .inl ⟨rfl, _, SqL.of hq2⟩, _, rfl, .inl ⟨rfl, _, SqL.of hl2⟩, _, rfl, _, rfl, _, _, rfl, .inl (SqL.of hl2), r, (ls.length : Int), rfl, reel_upd hR1 nre, by omega, by omega, fun v a b c h0 h1 => ?_⟩
        obtain ⟨j, rfl⟩ : ∃ j : Nat, v = j := ⟨v.toNat, by omega⟩
        have hj : j < ls.length := by omega
        generalize hH2 : upd (upd H1 e (.lst [])) r (.lst [.int a, .int b, .int c]) = H2
        have hl3 : H2 l = some (.lst ls) := by rw [← hH2, upd_ne nrl.symm]; exact hl2
        have hq3 : H2 q = some (.lst fs) := by rw [← hH2, upd_ne nrq.symm]; exact hq2
        refine ⟨l, ls, (j : Int), j, ls[j], rfl, rfl, hl3, by omega, by omega, seq_ix hj, by simp [hj], ?_⟩
        refine ⟨q, fs, ls[j], rfl, rfl, by rw [upd_ne nql]; exact hq3, by have : fs.length < 1001 := by omega
                                                                          exact Nat.lt_of_lt_of_le this (by decide), ?_⟩
        refine ⟨⟨ls.eraseIdx j, fs ++ [ls[j]], rfl, ?_, ?_, ?_, by rw [upd_ne nql.symm, upd_same], upd_same⟩, ?_⟩
        · refine List.Perm.trans ?_ hp
          rw [List.append_assoc]
          exact List.Perm.append_left fs (perm_erase hj)
        · refine Kp.up (Kp.up ?_ (.inl hl0)) (.inl hq0)
          rw [← hH2]
          exact (hk.up (.inl hHe)).up (.inr (by simp))
        · refine reel_upd (reel_upd ?_ nrl) nrq
          rw [← hH2]
          exact reel_same a b c
        · show (match (upd (upd H2 l (.lst (ls.eraseIdx j))) q (.lst (fs ++ [ls[j]]))) l with | some (.lst ls) => ls.length | _ => 0) < (match H1 l with | some (.lst ls) => ls.length | _ => 0)
          rw [upd_ne nql.symm, upd_same, hl1]
          show (ls.eraseIdx j).length < ls.length
          rw [List.length_eraseIdx_of_lt hj]
          omega
    · intro σ H Q Q' hQ h
      obtain ⟨v, e1, z, g⟩ := h
      refine ⟨v, e1, z, fun e he => ?_⟩
      obtain ⟨d1, d2, x1, x2, x3, x4, b, eb, q⟩ := g e he
      exact ⟨d1, d2, x1, x2, x3, x4, b, eb, hQ _ _ q⟩
end
end K75
-- part R1
set_option Elab.async false
set_option linter.all false
set_option maxRecDepth 100000
set_option maxHeartbeats 4000000
namespace K75
open PySem PySem.Spec PyProof.Rows L2
section
variable {X : Cx}
/-- list(text) -/
theorem signs_vals : ∀ (t : Tx0) (us : List Value), us.length = t.length → (∀ (j : Nat) (v : Value), us[j]? = some v → ∃ c u, t[j]? = some c ∧ v = Value.str ⟨#[c]⟩ u) → Vals (t.map fun c => tv [c]) us
  | [], [], _, _ => .nil
  | c :: t, u :: us, hl, h => by
    refine .cons ?_ (signs_vals t us (by simpa using hl) fun j v e => ?_)
    · obtain ⟨d, z, e1, e2⟩ := h 0 u rfl
      cases e1
      exact ⟨z, e2⟩
    · obtain ⟨d, z, e1, e2⟩ := h (j + 1) v e
      exact ⟨d, z, by simpa using e1, e2⟩
theorem cr_listStr (hc : X.calm = true) : CallR X (.type "list") (fun xs H Q => ∃ t : Tx0, xs = [tv t] ∧ t.length ≤ sizeLine ∧ ∀ l, H l = none → Q (.ref l) (upd H l (.lst (t.map fun c => tv [c])))) := by
  intro pins s σ H xs us Q I r h
  obtain ⟨t, rfl, hz, q⟩ := h
  obtain ⟨u, rfl, tk, rfl⟩ := vals1 r
  refine call_list_str (I.ok.hd hc) (SX.S t) tk (hn := by simpa using hz) fun h' tk' acc c' hk hD hacc => ?_
  have hv : Vals (t.map fun c => tv [c]) acc.toList := signs_vals t acc.toList (by rw [Array.length_toList, hacc.1]; simp) fun j v e => by
    obtain ⟨c, z, e1, e2⟩ := hacc.2 j v (by rw [← Array.getElem?_toList]; exact e)
    exact ⟨c, z, by simpa using e1, e2⟩
  refine ⟨.ref s.heap.objs.size, upd H s.heap.objs.size (.lst (t.map fun c => tv [c])), I.laid (t' := tk') hk (Nat.le_refl _) ?_, rfl, q _ (I.hok.fresh (Nat.le_refl _))⟩
  exact ⟨by rw [List.length_map]; exact hz, acc.toList, c', hv, by rw [Array.toArray_toList]; exact hD⟩
/-- text * n -/
theorem rep_eq (x : Array Nat) : ∀ n : Nat, ((List.replicate n x).foldl (· ++ ·) #[]).toList = (List.replicate n x.toList).flatten := by
  have go : ∀ (n : Nat) (a : Array Nat), ((List.replicate n x).foldl (· ++ ·) a).toList = a.toList ++ (List.replicate n x.toList).flatten := by
    intro n
    induction n with
    | zero => intro a; simp
    | succ n ih => intro a; rw [List.replicate_succ, List.foldl_cons, ih, List.replicate_succ, List.flatten_cons]; simp
  intro n
  rw [go n #[]]
  simp
def rRepS : R2 := fun x y H Q => ∃ (t : Tx0) (n : Nat), x = tv t ∧ y = .int (n : Int) ∧ t ≠ [] ∧ 2 ≤ n ∧ t.length * n ≤ 1000000 ∧ Q (tv (List.replicate n t).flatten) H
theorem op_rep_str : OpR X (binaryOp .Mult) rRepS := by
  intro pins s σ H x y v u Q I rx ry h
  obtain ⟨t, n, rfl, rfl, hne, h2, hl, q⟩ := h
  obtain ⟨tx, rfl⟩ := rx
  obtain ⟨ty, rfl⟩ := ry
  have hpos : 0 < t.length := List.length_pos_iff.mpr hne
  have hn : n ≤ 1000000 := Nat.le_trans (Nat.le_mul_of_pos_left n hpos) hl
  have e1 : (((n : Int) == 1) || (SX.S t).length == 0) = false := by
    rw [SX.S_len]
    have a1 : ((n : Int) == 1) = false := by
      rw [beq_eq_false_iff_ne]
      omega
    have a2 : (t.length == 0) = false := by
      rw [beq_eq_false_iff_ne]
      omega
    rw [a1, a2]
    rfl
  refine PySem.P.mul_str ?_ (fun _ _ => ?_) (fun _ _ => ?_) ?_
  · rw [decide_eq_false (show ¬ (n : Int) < -(2 ^ 63) by omega), decide_eq_false (show ¬ (n : Int) ≥ 2 ^ 63 by omega)]
    rfl
  · rw [SX.S_len]
    have hm : (t.length : Int) * (n : Int) ≤ 1000000 := by
      rw [← Int.natCast_mul]
      omega
    intro hgt
    have hd : (2 ^ 63 - 1) / (n : Int) < (t.length : Int) := hgt
    have := (Int.ediv_lt_iff_lt_mul (show (0 : Int) < n by omega)).mp hd
    omega
  · rw [SX.S_len]
    have : (n : Int).toNat = n := Int.toNat_natCast n
    rw [this]
    have h3 : sizeLine = 16777216 := sizeLine_eq
    exact decide_eq_false (show ¬ t.length * n > sizeLine by omega)
  · rw [if_neg (show ¬ (n : Int) < 1 by omega), e1, if_neg Bool.false_ne_true]
    have e2 : (⟨(List.replicate (n : Int).toNat (SX.S t).cps).foldl (· ++ ·) #[]⟩ : Str) = SX.S (List.replicate n t).flatten := by
      rw [Int.toNat_natCast]
      exact TL.ext_tl (rep_eq (SX.S t).cps n)
    rw [e2]
    refine ⟨?_, tv (List.replicate n t).flatten, H, I.tok _, ⟨_, rfl⟩, q⟩
    rw [SX.S_len, List.length_flatten, List.map_replicate, List.sum_replicate_nat]
    have h3 : sizeLine = 16777216 := sizeLine_eq
    rw [Nat.mul_comm]
    omega
/-! repr of data, where no repr is under way -/
def rRepr (K : PySem.W.Frag) : List V → Hp → VK → Prop := fun xs H Q => ∃ x d, xs = [x] ∧ Dp K H x d ∧ d.canLay0 = true ∧ d.depth ≤ 30 ∧ d.showable = true ∧ d.shown.length ≤ sizeLine ∧ Q (.str d.shown) H
theorem call_repr (hg : X.A.guards = some []) (hu : X.A.units + 64 < cLine) : CallR X (.builtin "repr") (rRepr X.K) := by
  intro pins s σ H xs us Q I r h
  obtain ⟨x, d, rfl, hd, hl, hdp, hs, hz, q⟩ := h
  obtain ⟨u, rfl, rx⟩ := vals1 r
  obtain ⟨as, rd⟩ := Dp.reads I d x u hd rx
  have kept : ∀ h' z tk, (∀ b o, s.heap.get? b = some o → h'.get? b = some o) → EP X pins σ Q (.str d.shown z) { s with heap := h', toks := tk } := fun h' z tk hk =>
    ⟨.str d.shown, H, I.kept (t' := tk) hk, ⟨z, rfl⟩, q⟩
  cases hd with
  | non =>
    cases rx
    exact PySem.P.repr_of_none (kept s.heap _ _ fun _ _ e => e)
  | bl b =>
    cases rx
    exact PySem.P.repr_of_bool (kept s.heap _ _ fun _ _ e => e)
  | int i =>
    obtain ⟨t, rfl⟩ := rx
    exact PySem.P.repr_of_int (by simpa [PyData.showable] using hs) (kept s.heap _ _ fun _ _ e => e)
  | str y =>
    obtain ⟨t, rfl⟩ := rx
    exact PySem.P.repr_of_str (kept s.heap _ _ fun _ _ e => e) (by simpa only [PyData.shown] using hz)
  | lst h1 h2 =>
    cases rx
    exact repr_of_reads' rd hs (PyData.noDict_hsm (PyData.hasDict_of_canLay _ hl)) hg (by omega) (fun _ _ e => e) (fun h' z tk hk => kept h' z tk hk) hz
  | tup h1 h2 =>
    cases rx
    exact repr_of_reads' rd hs (PyData.noDict_hsm (PyData.hasDict_of_canLay _ hl)) hg (by omega) (fun _ _ e => e) (fun h' z tk hk => kept h' z tk hk) hz
end
end K75
-- part D3
set_option Elab.async false
set_option linter.all false
set_option maxRecDepth 100000
set_option maxHeartbeats 4000000
namespace K75
open PySem PySem.Spec PyProof.Rows L2
abbrev sg (c : Nat) : V := tv [c]
theorem erase_map {α β : Type} (f : α → β) : ∀ (l : List α) (j : Nat), (l.map f).eraseIdx j = (l.eraseIdx j).map f
  | [], _ => rfl
  | _ :: _, 0 => rfl
  | a :: l, j + 1 => congrArg (f a :: ·) (erase_map f l j)
def abc : Tx0 := List.range' 97 26
theorem abc_lt : Lt abc := by unfold Lt abc; decide
theorem len_sg : ∀ t : Tx0, ((t.map fun c => [c]).map fun x => x.length).sum = t.length
  | [] => rfl
  | c :: t => by
    rw [List.map_cons, List.map_cons, List.sum_cons, len_sg t]
    exact Nat.add_comm 1 t.length
theorem join_sg (t : Tx0) : Txt.join (SX.S []) ((t.map fun c => [c]).map SX.S) = SX.S t := by
  rw [SX.join_S]
  refine congrArg SX.S ?_
  induction t with
  | nil => rfl
  | cons c t ih =>
    cases t with
    | nil => rfl
    | cons d t =>
      show [c] ++ [] ++ TL.joinL [] (([d] : List Nat) :: t.map fun c => [c]) = c :: d :: t
      rw [show TL.joinL [] (([d] : List Nat) :: t.map fun c => [c]) = d :: t from ih]
      rfl
section
variable {P : Program} {w : World} {K : PySem.W.Frag} {mg : Str → Option Value} {base : Heap} {CB CC CF : Addr}
theorem Kp.free {D : List Addr} {H H' : Hp} (k : Kp D H H') {e : Addr} (he : H' e = none) (hD : e ∉ D) : H e = none := by
  cases z : H e with
  | none => rfl
  | some o => rw [k e o z hD] at he; cases he
theorem Reel.ne {H : Hp} {r p : Addr} (h : Reel H r) (hp : H p = none) : r ≠ p := by
  obtain ⟨a, b, c, e⟩ := h
  exact ne_of_none e hp
/-! ### different letters -/
def sp_letters : Sp := fun vs H Q _ => ∃ (r : Addr) (n : Nat), vs = [.ref r, .int n] ∧ Reel H r ∧ n ≤ 26 ∧
  ∀ (q : Addr) (cs : Tx0) (H' : Hp), H q = none → cs.length = n → cs.Nodup → Lt cs → Kp [r] H H' → Reel H' r → H' q = some (.lst (cs.map sg)) → Q (.ref q) H'
theorem c_letters (T : Tx K mg CB CC CF) : C8.Cal P w K mg base 2 "_law_letters" sp_letters [] := by
  refine cal_of T.d_letters sc_letters (fun _ _ _ _ _ _ us hl => match us, hl with | [_, _], _ => rfl) (fun vs H Q E h => ?_) (fun cdv A outer f s H vs Q E hr h => ?_)
  · obtain ⟨r, n, rfl, _⟩ := h
    rfl
  · obtain ⟨r, n, rfl, hR, hn, k⟩ := h
    refine ⟨_, (pss_cons (ps_par (i := 2) (j := 3) (by rfl) sc_letters.nd rfl rfl (by decide) rfl rfl (pa_cons (pe_callTy (cr_listStr rfl) (by rfl) T.n_list (by decide +kernel) (pa_cons pe_str pa_nil)) (pa_cons (pe_lst pa_nil) pa_nil)) (by rfl))
  (pss_cons (ps_for PassesOwn.never rfl (pi_range1 (by rfl) T.n_range (pa_cons (pv 1) pa_nil)) (pg_name (i := 4) sc_letters.nd rfl (Or.inl rfl))
    (pss_one (ps_expr (pe_bm PySem.F.plainAttrs_list PySem.F.slot_list_append PySem.F.type_list_append mt_append (pv 3) (pa_cons (pe_bm PySem.F.plainAttrs_list PySem.F.slot_list_pop PySem.F.type_list_pop mt_popAt (pv 2) (pa_cons (C8.pe_c (c_spin T) hr (by decide) (by rfl) (pa_cons (pv 0) (pa_cons (pe_callB call_len_seq (by rfl) T.n_len (by decide +kernel) (pa_cons (pv 2) pa_nil)) pa_nil))) pa_nil)) pa_nil)))))
  (pss_one (ps_ret (pv 3))))), ?_⟩
    refine ⟨abc, rfl, by decide +kernel, fun l hl0 => ⟨by show 0 ≤ sizeLine; decide, fun q hq0 => ⟨_, _, rfl, ?_⟩⟩⟩
    have nrl : r ≠ l := hR.ne hl0
    have nql : q ≠ l := by
      rintro rfl
      rw [upd_same] at hq0; cases hq0
    rw [upd_ne nql] at hq0
    have nrq : r ≠ q := hR.ne hq0
    refine ⟨_, rfl, n, rfl, by omega, by omega, ?_⟩
    refine for_range (n := n) (fun i σ H' => ∃ (fs ls : Tx0) (x : Option V), σ = [some (.ref r), some (.int (n : Int)), some (.ref l), some (.ref q), x] ∧ fs.length = i ∧ (fs ++ ls).Perm abc ∧ Kp [r] H H' ∧ Reel H' r ∧ H' l = some (.lst (ls.map sg)) ∧ H' q = some (.lst (fs.map sg)))
      ⟨[], abc, none, rfl, rfl, List.Perm.refl _, ((kp_refl H).up (.inl hl0)).up (.inl hq0), reel_upd (reel_upd hR nrl) nrq, by rw [upd_ne nql.symm, upd_same], upd_same⟩ ?_ ?_
    · rintro i σ H1 hi ⟨fs, ls, x, rfl, hfl, hp, hk, hR1, hl1, hq1⟩
      have hlen : fs.length + ls.length = 26 := by rw [← List.length_append]; exact hp.length_eq
      have hll : (ls.map sg).length = ls.length := List.length_map ..
      refine ⟨_, rfl, .inl ⟨rfl, _, SqL.of hq1⟩, _, rfl, .inl ⟨rfl, _, SqL.of hl1⟩, _, rfl, _, rfl, _, _, rfl, .inl (SqL.of hl1), r, ((ls.map sg).length : Int), rfl, hR1, by omega, by omega, fun v a b c h0 h1 => ?_⟩
      obtain ⟨j, rfl⟩ : ∃ j : Nat, v = j := ⟨v.toNat, by omega⟩
      have hj : j < ls.length := by omega
      generalize hH2 : upd H1 r (.lst [.int a, .int b, .int c]) = H2
      have hl3 : H2 l = some (.lst (ls.map sg)) := by rw [← hH2, upd_ne nrl.symm]; exact hl1
      have hq3 : H2 q = some (.lst (fs.map sg)) := by rw [← hH2, upd_ne nrq.symm]; exact hq1
      refine ⟨l, ls.map sg, (j : Int), j, sg ls[j], rfl, rfl, hl3, by omega, by omega, seq_ix (by omega), by simp [hj], ?_⟩
      refine ⟨q, fs.map sg, sg ls[j], rfl, rfl, by rw [upd_ne nql]; exact hq3, ?_, ?_⟩
      · have h3 : sizeLine = 16777216 := sizeLine_eq
        rw [List.length_map]
        omega
      refine ⟨fs ++ [ls[j]], ls.eraseIdx j, _, rfl, by rw [List.length_append, hfl] <;> rfl, ?_, ?_, ?_, ?_, ?_⟩
      · refine List.Perm.trans ?_ hp
        rw [List.append_assoc]
        exact List.Perm.append_left fs (perm_erase hj)
      · refine Kp.up (Kp.up ?_ (.inl hl0)) (.inl hq0)
        rw [← hH2]
        exact hk.up (.inr (by simp))
      · refine reel_upd (reel_upd ?_ nrl) nrq
        rw [← hH2]
        exact reel_same a b c
      · rw [upd_ne nql.symm, upd_same, erase_map]
      · rw [upd_same, List.map_append]
        rfl
    · rintro σ H1 ⟨fs, ls, x, rfl, hfl, hp, hk, hR1, hl1, hq1⟩
      refine ⟨_, rfl, k q fs H1 hq0 hfl ?_ ?_ hk hR1 hq1⟩
      · have nd : (fs ++ ls).Nodup := hp.nodup_iff.mpr (by decide)
        exact (List.nodup_append.mp nd).1
      · exact fun c hc => abc_lt c (hp.mem_iff.mp (List.mem_append_left _ hc))
/-! ### a drawn text -/
def sp_drawn_text (K : PySem.W.Frag) : Sp := fun vs H Q _ => ∃ (r p : Addr) (cs : Tx0) (n : Nat), vs = [.ref r, .ref p, .int n] ∧ Reel H r ∧ H p = some (.lst (cs.map sg)) ∧ p ≠ r ∧ cs ≠ [] ∧ cs.length ≤ 1000 ∧ n ≤ 1000 ∧
  ∀ (t : Tx0) (H' : Hp), t.length = n → (∀ c ∈ t, c ∈ cs) → Kp [r] H H' → Reel H' r → Q (tv t) H'
theorem c_drawn_text (T : Tx K mg CB CC CF) : C8.Cal P w K mg base 3 "_law_drawn_text" (sp_drawn_text K) [] := by
  refine cal_of T.d_drawn_text sc_drawn_text (fun _ _ _ _ _ _ us hl => match us, hl with | [_, _, _], _ => rfl) (fun vs H Q E h => ?_) (fun cdv A outer f s H vs Q E hr h => ?_)
  · obtain ⟨r, p, cs, n, rfl, _⟩ := h
    rfl
  · obtain ⟨r, p, cs, n, rfl, hR, L, npr, hc, hcl, hn, k⟩ := h
    refine ⟨_, (pss_one (ps_ret (pe_join pe_str (pe_lc (own := [("spot", 3)]) (g := gName 3) rfl sc_drawn_text.nd (pi_range1 (by rfl) T.n_range (pa_cons (pv 2) pa_nil)) (blkOk_by (own := [("spot", 3)]) (N := N_drawn_text) (sc := (defScope s_drawn_text)) (by decide +kernel)) (fun _ _ _ _ _ => (pg_name (i := 3) sc_drawn_text.nd rfl (Or.inl rfl))) (fun _ _ _ _ _ => pts_nil) (fun _ _ _ _ _ => (C8.pe_c (c_pick T) hr (by decide) (by rfl) (pa_cons (pv 0) (pa_cons (pv 1) pa_nil)))))))), ?_⟩
    refine ⟨⟨_, rfl⟩, _, rfl, n, rfl, by omega, by omega, fun D hD => ?_⟩
    have nrD : r ≠ D := hR.ne hD
    have npD : p ≠ D := ne_of_none L hD
    refine lc_range (lo := 0) (n := n) (fun i H' => ∃ t : Tx0, t.length = i ∧ (∀ c ∈ t, c ∈ cs) ∧ Kp [r] H H' ∧ Reel H' r ∧ H' p = some (.lst (cs.map sg)) ∧ H' D = some (.lst (t.map sg)))
      ⟨[], rfl, (fun _ h => by cases h), (kp_refl H).up (.inl hD), reel_upd hR nrD, by rw [upd_ne npD]; exact L, upd_same⟩ ?_ ?_
    · rintro i H1 hi ⟨t, htl, htc, hk, hR1, L1, hD1⟩
      refine ⟨rfl, _, rfl, _, rfl, r, p, cs.map sg, rfl, hR1, SqL.of L1, npr, by simpa using hc, by simpa using hcl, fun x a b c hx => ?_⟩
      obtain ⟨d, hd, rfl⟩ := List.mem_map.mp hx
      refine ⟨t.map sg, by rw [upd_ne nrD.symm]; exact hD1, ?_, t ++ [d], by rw [List.length_append, htl] <;> rfl, ?_, ?_, ?_, ?_, ?_⟩
      · have h3 : sizeLine = 16777216 := sizeLine_eq
        rw [List.length_map]
        omega
      · intro e he
        rcases List.mem_append.mp he with h | h
        · exact htc e h
        · rw [List.mem_singleton.mp h]; exact hd
      · exact (hk.up (.inr (by simp))).up (.inl hD)
      · exact reel_upd (reel_same a b c) nrD
      · rw [upd_ne npD, upd_ne npr]; exact L1
      · rw [upd_same, List.map_append]
        rfl
    · rintro H1 ⟨t, htl, htc, hk, hR1, L1, hD1⟩
      refine ⟨SX.S [], D, (t.map fun c => [c]).map SX.S, rfl, rfl, .inl (SqL.of ?_), ?_, ?_⟩
      · rw [hD1, List.map_map, List.map_map]
        rfl
      · rw [SX.lens, SX.S_len, len_sg]
        show t.length + _ * 0 ≤ 16777216
        omega
      · rw [join_sg]
        exact k t H1 htl htc hk hR1
end
end K75
-- part DV
set_option Elab.async false
set_option linter.all false
set_option maxRecDepth 100000
set_option maxHeartbeats 4000000
namespace K75
open PySem PySem.Spec PyProof.Rows L2
/-! tables whose keys are texts -/
abbrev kx (t : Tx0) : Key := Sum.inr (SX.S t)
theorem kx_inj {a b : Tx0} (h : kx a = kx b) : a = b := by
  have := congrArg (fun s : Str => s.cps.toList) (Sum.inr.inj h)
  simpa [SX.S] using this
section
variable {β : Type}
def getA (m : List (Tx0 × β)) (k : Tx0) : Option β := (m.find? fun p => decide (p.1 = k)).map (·.2)
def putA (m : List (Tx0 × β)) (k : Tx0) (v : β) : List (Tx0 × β) := if k ∈ m.map (·.1) then m.map (fun p => if p.1 = k then (p.1, v) else p) else m ++ [(k, v)]
def dV (f : β → V) (m : List (Tx0 × β)) : List (Key × V) := m.map fun p => (kx p.1, f p.2)
theorem dV_length (f : β → V) (m : List (Tx0 × β)) : (dV f m).length = m.length := List.length_map ..
theorem valV_dV (f : β → V) (k : Tx0) : ∀ m : List (Tx0 × β), valV (dV f m) (kx k) = (getA m k).map f
  | [] => rfl
  | p :: m => by
    by_cases e : p.1 = k
    · have : kx p.1 = kx k := by rw [e]
      show valV ((kx p.1, f p.2) :: dV f m) (kx k) = _
      rw [valV_pos this]
      simp [getA, List.find?_cons, e]
    · have : ¬ kx p.1 = kx k := fun h => e (kx_inj h)
      show valV ((kx p.1, f p.2) :: dV f m) (kx k) = _
      rw [valV_neg this, valV_dV f k m]
      simp [getA, List.find?_cons, e]
theorem getA_none {m : List (Tx0 × β)} {k : Tx0} : getA m k = none ↔ k ∉ m.map (·.1) := by
  unfold getA
  rw [Option.map_eq_none_iff, List.find?_eq_none]
  simp only [decide_eq_true_eq, List.mem_map, not_exists, not_and]
theorem getA_some {m : List (Tx0 × β)} {k : Tx0} {v : β} (h : getA m k = some v) : (k, v) ∈ m := by
  unfold getA at h
  obtain ⟨p, h1, h2⟩ := Option.map_eq_some_iff.mp h
  have := List.find?_some h1
  have e := List.mem_of_find?_eq_some h1
  simp only [decide_eq_true_eq] at this
  obtain ⟨a, b⟩ := p
  cases this
  cases h2
  exact e
theorem getA_mem {m : List (Tx0 × β)} (nd : (m.map (·.1)).Nodup) {k : Tx0} {v : β} (h : (k, v) ∈ m) : getA m k = some v := by
  induction m with
  | nil => cases h
  | cons p m ih =>
    rw [List.map_cons, List.nodup_cons] at nd
    by_cases e : p.1 = k
    · rcases List.mem_cons.mp h with h | h
      · subst h
        simp [getA, List.find?_cons]
      · exact absurd (List.mem_map_of_mem (f := (·.1)) h) (by rw [← e]; exact nd.1)
    · rcases List.mem_cons.mp h with h | h
      · subst h
        exact absurd rfl e
      · have := ih nd.2 h
        simp only [getA, List.find?_cons, e, decide_false] at this ⊢
        exact this
theorem getA_isSome {m : List (Tx0 × β)} {k : Tx0} : (getA m k).isSome = decide (k ∈ m.map (·.1)) := by
  cases h : getA m k with
  | none => exact (decide_eq_false (getA_none.mp h)).symm
  | some v => exact (decide_eq_true (List.mem_map_of_mem (f := (·.1)) (getA_some h))).symm
theorem keys_putA (m : List (Tx0 × β)) (k : Tx0) (v : β) : (putA m k v).map (·.1) = if k ∈ m.map (·.1) then m.map (·.1) else m.map (·.1) ++ [k] := by
  unfold putA
  by_cases h : k ∈ m.map (·.1)
  · rw [if_pos h, if_pos h, List.map_map]
    refine List.map_congr_left fun p _ => ?_
    simp only [Function.comp_apply]
    split <;> rfl
  · rw [if_neg h, if_neg h, List.map_append]
    rfl
theorem mem_keys_putA {m : List (Tx0 × β)} {k j : Tx0} {v : β} : j ∈ (putA m k v).map (·.1) ↔ j = k ∨ j ∈ m.map (·.1) := by
  rw [keys_putA]
  by_cases h : k ∈ m.map (·.1)
  · rw [if_pos h]
    exact ⟨.inr, fun z => z.elim (fun e => by rw [e]; exact h) id⟩
  · rw [if_neg h, List.mem_append, List.mem_singleton]
    exact Or.comm
theorem nd_putA {m : List (Tx0 × β)} {k : Tx0} {v : β} (nd : (m.map (·.1)).Nodup) : ((putA m k v).map (·.1)).Nodup := by
  rw [keys_putA]
  by_cases h : k ∈ m.map (·.1)
  · rw [if_pos h]; exact nd
  · rw [if_neg h]; exact nd_snoc nd h
theorem mem_putA {m : List (Tx0 × β)} {k : Tx0} {v : β} {p : Tx0 × β} (h : p ∈ putA m k v) : p = (k, v) ∨ p ∈ m := by
  unfold putA at h
  split at h
  · obtain ⟨q, hq, e⟩ := List.mem_map.mp h
    by_cases e2 : q.1 = k
    · rw [if_pos e2] at e
      rw [← e, e2]
      exact .inl rfl
    · rw [if_neg e2] at e
      rw [← e]
      exact .inr hq
  · rcases List.mem_append.mp h with h | h
    · exact .inr h
    · exact .inl (List.mem_singleton.mp h)
theorem len_putA (m : List (Tx0 × β)) (k : Tx0) (v : β) : m.length ≤ (putA m k v).length ∧ (putA m k v).length ≤ m.length + 1 := by
  unfold putA
  split
  · rw [List.length_map]; omega
  · rw [List.length_append, List.length_singleton]; omega
theorem putA_new {m : List (Tx0 × β)} {k : Tx0} {v : β} (h : k ∉ m.map (·.1)) : putA m k v = m ++ [(k, v)] := if_neg h
theorem putK_dV (f : β → V) (m : List (Tx0 × β)) (k : Tx0) (v : β) : putK (dV f m) (kx k) (f v) = dV f (putA m k v) := by
  have e : ((dV f m).any fun kv => decide (kv.1 = kx k)) = decide (k ∈ m.map (·.1)) := by
    rw [valV_any, valV_dV, Option.isSome_map, getA_isSome]
  unfold putK putA
  rw [e]
  by_cases h : k ∈ m.map (·.1)
  · rw [if_pos (decide_eq_true h), if_pos h]
    unfold dV
    rw [List.map_map, List.map_map]
    refine List.map_congr_left fun p _ => ?_
    simp only [Function.comp_apply]
    by_cases e2 : p.1 = k
    · rw [if_pos e2, if_pos (by rw [e2])]
    · rw [if_neg e2, if_neg (fun z => e2 (kx_inj z))]
  · rw [if_neg (by rw [decide_eq_false h]; exact Bool.false_ne_true), if_neg h]
    unfold dV
    rw [List.map_append]
    rfl
theorem merge_dV (f : β → V) : ∀ (m l : List (Tx0 × β)), ((l ++ m).map (·.1)).Nodup → mergeK (dV f l) (dV f m) = dV f (l ++ m)
  | [], l, _ => by rw [List.append_nil]; rfl
  | p :: m, l, nd => by
    have nd2 := nd
    rw [List.map_append, List.map_cons] at nd2
    have h : p.1 ∉ l.map (·.1) := fun z => (List.nodup_append.mp nd2).2.2 _ z _ (List.mem_cons_self ..) rfl
    show mergeK (putK (dV f l) (kx p.1) (f p.2)) (dV f m) = _
    rw [putK_dV, putA_new h, merge_dV f m (l ++ [(p.1, p.2)]) (by rw [List.append_assoc]; exact nd), List.append_assoc]
    rfl
theorem merge_self (f : β → V) {m : List (Tx0 × β)} (nd : (m.map (·.1)).Nodup) : mergeK [] (dV f m) = dV f m := merge_dV f m [] nd
end
/-! mixing -/
theorem perm_map_ex {α γ : Type} {g : α → γ} {ys zs : List γ} (h : ys.Perm zs) : ∀ l : List α, zs = l.map g → ∃ l' : List α, ys = l'.map g ∧ l'.Perm l := by
  induction h with
  | nil =>
    rintro l e
    cases l with
    | nil => exact ⟨[], rfl, .refl _⟩
    | cons => cases e
  | cons x p ih =>
    rintro l e
    cases l with
    | nil => cases e
    | cons a l =>
      rw [List.map_cons] at e
      injection e with e1 e2
      obtain ⟨l', e3, e4⟩ := ih l e2
      exact ⟨a :: l', by rw [List.map_cons, e1, e3], .cons a e4⟩
  | swap x y l0 =>
    rintro l e
    match l, e with
    | a :: b :: l, e =>
      rw [List.map_cons, List.map_cons] at e
      injection e with e1 e2
      injection e2 with e2 e3
      exact ⟨b :: a :: l, by rw [List.map_cons, List.map_cons, e1, e2, e3], .swap a b l⟩
  | trans p1 p2 ih1 ih2 =>
    rintro l e
    obtain ⟨l1, e1, q1⟩ := ih2 l e
    obtain ⟨l2, e2, q2⟩ := ih1 l1 e1
    exact ⟨l2, e2, q2.trans q1⟩
theorem paired_perm {α γ : Type} {F : α → γ → Prop} {ps ts : List α} (h : ps.Perm ts) : ∀ kvs : List γ, Paired F ts kvs → ∃ kvs' : List γ, kvs'.Perm kvs ∧ Paired F ps kvs' := by
  induction h with
  | nil => exact fun kvs h => ⟨kvs, .refl _, h⟩
  | cons x p ih =>
    rintro _ (_ | ⟨h1, h2⟩)
    obtain ⟨k', e1, e2⟩ := ih _ h2
    exact ⟨_ :: k', .cons _ e1, .cons h1 e2⟩
  | swap x y l =>
    rintro _ (_ | ⟨h1, _ | ⟨h2, h3⟩⟩)
    exact ⟨_, .swap _ _ _, .cons h2 (.cons h1 h3)⟩
  | trans p1 p2 ih1 ih2 =>
    rintro kvs h
    obtain ⟨k1, e1, q1⟩ := ih2 kvs h
    obtain ⟨k2, e2, q2⟩ := ih1 k1 q1
    exact ⟨k2, e2.trans e1, q2⟩
theorem nodup_len_le {α : Type} [DecidableEq α] : ∀ {xs ys : List α}, xs.Nodup → (∀ x ∈ xs, x ∈ ys) → xs.length ≤ ys.length
  | [], ys, _, _ => Nat.zero_le _
  | x :: xs, ys, nd, h => by
    have nd := List.nodup_cons.mp nd
    have hx := h x (List.mem_cons_self ..)
    have := nodup_len_le (ys := ys.erase x) nd.2 fun z hz => (List.mem_erase_of_ne (fun e => nd.1 (by rw [← e]; exact hz))).mpr (h z (List.mem_cons_of_mem _ hz))
    rw [List.length_erase_of_mem hx] at this
    have : 0 < ys.length := List.length_pos_of_mem hx
    rw [List.length_cons]
    omega
theorem hu1 {k : Nat} {A : Around} (r : Room k A) : A.units + 1 < cLine := by have := r.un; omega
end K75
-- part D5
set_option Elab.async false
set_option linter.all false
set_option maxRecDepth 100000
set_option maxHeartbeats 4000000
namespace K75
open PySem PySem.Spec PyProof.Rows L2
/-! ### books as tables -/
abbrev Bk := List (Tx0 × Int)
abbrev dB (bk : Bk) : List (Key × V) := dV V.int bk
/-- what can be a book -/
structure GoodBook (bk : Bk) : Prop where
  nd : (bk.map (·.1)).Nodup
  ne : 1 ≤ bk.length
  le : bk.length ≤ 12
  lt : ∀ p ∈ bk, Lt p.1
  ln : ∀ p ∈ bk, 1 ≤ p.1.length ∧ p.1.length ≤ 5
  pr : ∀ p ∈ bk, 1 ≤ p.2 ∧ p.2 ≤ 99
  on : (bk.filter fun p => decide (p.1.length = 1)).length ≤ 4
  sg : ∀ p ∈ bk, ∀ c ∈ p.1, [c] ∈ bk.map (·.1)
theorem GoodBook.perm {bk bl : Bk} (g : GoodBook bk) (h : bl.Perm bk) : GoodBook bl := by
  refine ⟨(h.map _).nodup_iff.mpr g.nd, by rw [h.length_eq]; exact g.ne, by rw [h.length_eq]; exact g.le, fun p hp => g.lt p (h.mem_iff.mp hp), fun p hp => g.ln p (h.mem_iff.mp hp), fun p hp => g.pr p (h.mem_iff.mp hp), by rw [(h.filter _).length_eq]; exact g.on, fun p hp c hc => (h.map _).mem_iff.mpr (g.sg p (h.mem_iff.mp hp) c hc)⟩
/-- on the way: texts over the letters cs -/
structure GB (cs : Tx0) (bk : Bk) : Prop where
  nd : (bk.map (·.1)).Nodup
  ok : ∀ p ∈ bk, 1 ≤ p.1.length ∧ p.1.length ≤ 5 ∧ (∀ c ∈ p.1, c ∈ cs) ∧ 1 ≤ p.2 ∧ p.2 ≤ 99
theorem GB.put {cs : Tx0} {bk : Bk} (g : GB cs bk) {k : Tx0} {n : Int} (h1 : 1 ≤ k.length) (h2 : k.length ≤ 5) (h3 : ∀ c ∈ k, c ∈ cs) (h4 : 1 ≤ n) (h5 : n ≤ 99) : GB cs (putA bk k n) :=
  ⟨nd_putA g.nd, fun p hp => by
    rcases mem_putA hp with e | h
    · subst e
      exact ⟨h1, h2, h3, h4, h5⟩
    · exact g.ok p h⟩
theorem one_of_len {t : Tx0} (h : t.length = 1) : ∃ c, t = [c] := by
  match t, h with
  | [c], _ => exact ⟨c, rfl⟩
theorem GB.good {cs : Tx0} {bk : Bk} (g : GB cs bk) (hcs : cs ≠ []) (hc : cs.length ≤ 4) (hl : Lt cs) (hf : ∀ c ∈ cs, [c] ∈ bk.map (·.1)) (h12 : bk.length ≤ 12) : GoodBook bk := by
  refine ⟨g.nd, ?_, h12, fun p hp c h => hl c ((g.ok p hp).2.2.1 c h), fun p hp => ⟨(g.ok p hp).1, (g.ok p hp).2.1⟩, fun p hp => (g.ok p hp).2.2.2, ?_, fun p hp c h => hf c ((g.ok p hp).2.2.1 c h)⟩
  · cases cs with
    | nil => exact absurd rfl hcs
    | cons c cs =>
      have := hf c (List.mem_cons_self ..)
      have := List.length_pos_of_mem this
      rw [List.length_map] at this
      exact this
  · have e : (bk.filter fun p => decide (p.1.length = 1)).length = ((bk.filter fun p => decide (p.1.length = 1)).map (·.1)).length := (List.length_map ..).symm
    have : ((bk.filter fun p => decide (p.1.length = 1)).map (·.1)).length ≤ (cs.map fun c => [c]).length := by
      refine nodup_len_le (List.Nodup.sublist ((List.filter_sublist).map _) g.nd) fun x hx => ?_
      obtain ⟨p, hp, rfl⟩ := List.mem_map.mp hx
      obtain ⟨h1, h2⟩ := List.mem_filter.mp hp
      obtain ⟨c, ec⟩ := one_of_len (of_decide_eq_true h2)
      rw [ec]
      refine List.mem_map_of_mem ?_
      exact (g.ok p h1).2.2.1 c (by rw [ec]; exact List.mem_cons_self ..)
    rw [e]
    refine Nat.le_trans this ?_
    rw [List.length_map]
    exact hc
/-- heaps on the way -/
structure BB (H0 : Hp) (r l d : Addr) (cs : Tx0) (H : Hp) (bk : Bk) : Prop where
  kp : Kp [r] H0 H
  rl : Reel H r
  hl : H l = some (.lst (cs.map sg))
  hd : H d = some (.dK (dB bk))
  l0 : H0 l = none
  d0 : H0 d = none
  nl : r ≠ l
  nd : r ≠ d
  ld : l ≠ d
section
variable {H0 H : Hp} {r l d : Addr} {cs : Tx0} {bk : Bk}
theorem BB.fresh (b : BB H0 r l d cs H bk) {p : Addr} {o : HO} (h : H p = none) : BB H0 r l d cs (upd H p o) bk :=
  ⟨b.kp.up (.inl (by cases z : H0 p with
    | none => rfl
    | some o =>
      by_cases e : p = r
      · obtain ⟨x, y, w, e2⟩ := b.rl
        rw [e, e2] at h; cases h
      · rw [b.kp p o z (by simpa using e)] at h; cases h)), reel_upd b.rl (b.rl.ne h), by rw [upd_ne (ne_of_none b.hl h)]; exact b.hl, by rw [upd_ne (ne_of_none b.hd h)]; exact b.hd, b.l0, b.d0, b.nl, b.nd, b.ld⟩
theorem BB.reel (b : BB H0 r l d cs H bk) (x y z : Int) : BB H0 r l d cs (upd H r (.lst [.int x, .int y, .int z])) bk :=
  ⟨b.kp.up (.inr (by simp)), reel_same x y z, by rw [upd_ne b.nl.symm]; exact b.hl, by rw [upd_ne b.nd.symm]; exact b.hd, b.l0, b.d0, b.nl, b.nd, b.ld⟩
theorem BB.put (b : BB H0 r l d cs H bk) (bl : Bk) : BB H0 r l d cs (upd H d (.dK (dB bl))) bl :=
  ⟨b.kp.up (.inl b.d0), reel_upd b.rl b.nd, by rw [upd_ne b.ld]; exact b.hl, upd_same, b.l0, b.d0, b.nl, b.nd, b.ld⟩
theorem BB.call (b : BB H0 r l d cs H bk) {H' : Hp} (k : Kp [r] H H') (h : Reel H' r) : BB H0 r l d cs H' bk :=
  ⟨b.kp.trans k, h, k _ _ b.hl (by simpa using b.nl.symm), k _ _ b.hd (by simpa using b.nd.symm), b.l0, b.d0, b.nl, b.nd, b.ld⟩
theorem BB.dput (b : BB H0 r l d cs H bk) (hz : bk.length ≤ 1000) (k : Tx0) (n : Int) : DPut H d (tv k) (.int n) (upd H d (.dK (dB (putA bk k n)))) := by
  have h3 : sizeLine = 16777216 := sizeLine_eq
  have := DPut.k (k := kx k) (v := .int n) b.hd (by rw [dV_length]; omega)
  rw [putK_dV] at this
  exact this
end
theorem paired_weak {α γ : Type} {F G : α → γ → Prop} {ps : List α} {kvs : List γ} (h : Paired F ps kvs) (w : ∀ a c, a ∈ ps → F a c → G a c) : Paired G ps kvs := by
  induction h with
  | nil => exact .nil
  | cons h1 h2 ih => exact .cons (w _ _ (List.mem_cons_self ..) h1) (ih fun a c ha => w a c (List.mem_cons_of_mem _ ha))
section
variable {P : Program} {w : World} {K : PySem.W.Frag} {mg : Str → Option Value} {base : Heap} {CB CC CF : Addr}
def sp_drawn_book : Sp := fun vs H Q _ => ∃ (r : Addr), vs = [.ref r] ∧ Reel H r ∧
  ∀ (p : Addr) (bk : Bk) (H' : Hp), H p = none → GoodBook bk → Kp [r] H H' → Reel H' r → H' p = some (.dK (dB bk)) → Q (.ref p) H'
theorem c_drawn_book (T : Tx K mg CB CC CF) : C8.Cal P w K mg base 4 "_law_drawn_book" sp_drawn_book [] := by
  refine cal_of T.d_drawn_book sc_drawn_book (fun _ _ _ _ _ _ us hl => match us, hl with | [_], _ => rfl) (fun vs H Q E h => ?_) (fun cdv A outer f s H vs Q E hr h => ?_)
  · obtain ⟨r, rfl, _⟩ := h
    rfl
  · obtain ⟨r, rfl, hR, k⟩ := h
    have hu := hu1 hr
    have h3 : sizeLine = 16777216 := sizeLine_eq
    refine ⟨_, (pss_cons (ps_par (i := 1) (j := 2) (by rfl) sc_drawn_book.nd rfl rfl (by decide) rfl rfl (pa_cons (C8.pe_c (c_letters T) hr (by decide) (by rfl) (pa_cons (pv 0) (pa_cons (C8.pe_c (c_pick T) hr (by decide) (by rfl) (pa_cons (pv 0) (pa_cons (pe_lst (pa_cons pe_int (pa_cons pe_int (pa_cons pe_int (pa_cons pe_int (pa_cons pe_int (pa_cons pe_int pa_nil))))))) pa_nil))) pa_nil))) (pa_cons pe_dnewK pa_nil)) (by rfl))
  (pss_cons (ps_par (i := 3) (j := 4) (by rfl) sc_drawn_book.nd rfl rfl (by decide) rfl rfl (pa_cons (C8.pe_c (c_spin T) hr (by decide) (by rfl) (pa_cons (pv 0) (pa_cons pe_int pa_nil))) (pa_cons (C8.pe_c (c_pick T) hr (by decide) (by rfl) (pa_cons (pv 0) (pa_cons (pe_lst (pa_cons pe_int (pa_cons pe_int (pa_cons pe_int (pa_cons pe_int pa_nil))))) pa_nil))) pa_nil)) (by rfl))
  (pss_cons (ps_for PassesOwn.never rfl (pi_list (pv 1)) (pg_name (i := 5) sc_drawn_book.nd rfl (Or.inl rfl))
    (pss_one (ps_dput hu (pv 2) (pv 5) (C8.pe_c (c_pick T) hr (by decide) (by rfl) (pa_cons (pv 0) (pa_cons (pe_ix ix_list (pe_lst (pa_cons (pe_lst (pa_cons pe_int (pa_cons pe_int (pa_cons pe_int pa_nil)))) (pa_cons (pe_lst (pa_cons pe_int (pa_cons pe_int (pa_cons pe_int (pa_cons pe_int pa_nil))))) (pa_cons (pe_lst (pa_cons pe_int (pa_cons (pv 4) pa_nil))) (pa_cons (pe_lst (pa_cons (pv 4) (pa_cons pe_int (pa_cons (pv 4) pa_nil)))) pa_nil))))) (pv 3) (fun _ _ => rfl)) pa_nil))) rfl)))
  (C8.pss_cut (ps_if (pt_cmpR op_gt (pv 3) pe_int (nomark _))
    (pss_one (ps_for PassesOwn.never rfl (pi_list (pv 1)) (pg_name (i := 6) sc_drawn_book.nd rfl (Or.inl rfl))
      (pss_one (ps_for PassesOwn.never rfl (pi_list (pv 1)) (pg_name (i := 7) sc_drawn_book.nd rfl (Or.inl rfl))
        (pss_one (ps_if (PW.pt (pw_and (pt_cmpR op_gt (C8.pe_c (c_spin T) hr (by decide) (by rfl) (pa_cons (pv 0) (pa_cons pe_int pa_nil))) pe_int (nomark _)) (pw_and1 (pt_cmpR op_lt (pe_callB call_lenD (by rfl) T.n_len (by decide +kernel) (pa_cons (pv 2) pa_nil)) pe_int (nomark _)))))
          (pss_one (ps_dput hu (pv 2) (pe_op op_add_str (pv 6) (pv 7)) (C8.pe_c (c_pick T) hr (by decide) (by rfl) (pa_cons (pv 0) (pa_cons (pe_lst (pa_cons pe_int (pa_cons pe_int (pa_cons pe_int (pa_cons pe_int pa_nil))))) pa_nil))) rfl))
          pss_nil))))))
    (pss_one (ps_for PassesOwn.never rfl (pi_range1 (by rfl) T.n_range (pa_cons (pe_op op_add pe_int (C8.pe_c (c_spin T) hr (by decide) (by rfl) (pa_cons (pv 0) (pa_cons pe_int pa_nil)))) pa_nil)) (pg_name (i := 8) sc_drawn_book.nd rfl (Or.inl rfl))
      (pss_cons (ps_set (i := 9) sc_drawn_book.nd rfl (Or.inl rfl) (C8.pe_c (c_drawn_text T) hr (by decide) (by rfl) (pa_cons (pv 0) (pa_cons (pv 1) (pa_cons (pe_op op_add pe_int (C8.pe_c (c_spin T) hr (by decide) (by rfl) (pa_cons (pv 0) (pa_cons pe_int pa_nil)))) pa_nil)))))
      (pss_one (ps_dput hu (pv 2) (pv 9) (pe_ifExp (pt_cmpR op_eq (pv 3) pe_int (nomark _)) pe_int (pe_op op_add pe_int (C8.pe_c (c_spin T) hr (by decide) (by rfl) (pa_cons (pv 0) (pa_cons pe_int pa_nil))))) rfl))))))
  (pss_one (ps_ret (pe_callTy (call_dictP rfl) (by rfl) T.n_dict (by decide +kernel) (pa_cons (C8.pe_c (c_mixed T) hr (by decide) (by rfl) (pa_cons (pv 0) (pa_cons (LiI.pe_listItems rfl (pv 2) (by rfl) T.n_list (by decide +kernel)) pa_nil))) pa_nil)))))))), ?_⟩
    refine ⟨_, rfl, _, rfl, by show 6 ≤ sizeLine; omega, fun p1 np1 => ⟨r, p1, _, rfl, reel_upd hR (hR.ne np1), SqL.of upd_same, (hR.ne np1).symm, by simp, by show 6 ≤ 1000; decide, fun x a b c hx => ?_⟩⟩
    obtain ⟨n, rfl, hn1, hn4⟩ : ∃ n : Nat, x = .int n ∧ 1 ≤ n ∧ n ≤ 4 := by
      simp only [List.mem_cons, List.not_mem_nil, or_false] at hx
      rcases hx with h | h | h | h | h | h <;> subst h
      · exact ⟨2, rfl, by decide, by decide⟩
      · exact ⟨1, rfl, by decide, by decide⟩
      · exact ⟨2, rfl, by decide, by decide⟩
      · exact ⟨2, rfl, by decide, by decide⟩
      · exact ⟨3, rfl, by decide, by decide⟩
      · exact ⟨4, rfl, by decide, by decide⟩
    have nrp : r ≠ p1 := hR.ne np1
    have kp1 : Kp [r] H (upd (upd H p1 (.lst [.int 2, .int 1, .int 2, .int 2, .int 3, .int 4])) r (.lst [.int a, .int b, .int c])) := ((kp_refl H).up (.inl np1)).up (.inr (by simp))
    refine ⟨r, n, rfl, reel_same a b c, by omega, fun l cs H1 hl0 hcl hcn hclt hk hR1 hl1 => ?_⟩
    have l0 : H l = none := kp1.free hl0 (by
      rintro h
      rw [List.mem_singleton.mp h, upd_same] at hl0
      cases hl0)
    have nrl : r ≠ l := by
      rintro rfl
      rw [upd_same] at hl0
      cases hl0
    refine fun d hd0 => ⟨_, _, rfl, ?_⟩
    have B1 : BB H r l d cs (upd H1 d (.dK (dB []))) [] := by
      have nrd : r ≠ d := hR1.ne hd0
      refine ⟨(kp1.trans hk).up (.inl ?_), reel_upd hR1 nrd, by rw [upd_ne (ne_of_none hl1 hd0)]; exact hl1, upd_same, l0, ?_, nrl, nrd, ne_of_none hl1 hd0⟩ <;>
        exact (kp1.trans hk).free hd0 (by simpa using nrd.symm)
    generalize hH2 : upd H1 d (.dK (dB [])) = H2 at B1
    rw [show upd H1 d (.dK []) = H2 from hH2]
    refine ⟨_, rfl, r, 4, rfl, B1.rl, by decide, by decide, fun kd a2 b2 c2 hk0 hk4 => ⟨_, rfl, by show 4 ≤ sizeLine; omega, fun p2 np2 => ?_⟩⟩
    have B2 := B1.reel a2 b2 c2
    generalize upd H2 r (.lst [.int a2, .int b2, .int c2]) = H3 at B2 np2
    have B3 := B2.fresh (o := .lst [.int 9, .int 3, .int 2, .int 99]) np2
    refine ⟨r, p2, _, rfl, B3.rl, SqL.of upd_same, (B2.rl.ne np2).symm, by simp, by show 4 ≤ 1000; decide, fun x a3 b3 c3 hx => ?_⟩
    have B4 := B3.reel a3 b3 c3
    generalize upd (upd H3 p2 (.lst [.int 9, .int 3, .int 2, .int 99])) r (.lst [.int a3, .int b3, .int c3]) = H4 at B4
    obtain ⟨dr, rfl, hd1, hd2⟩ : ∃ n : Int, x = .int n ∧ 1 ≤ n ∧ n ≤ 99 := by
      simp only [List.mem_cons, List.not_mem_nil, or_false] at hx
      rcases hx with h | h | h | h <;> subst h <;> exact ⟨_, rfl, by decide, by decide⟩
    refine ⟨_, _, rfl, _, rfl, l, rfl, ⟨_, SqL.of B4.hl⟩, ?_⟩
    refine for_list (fun i σ H' => ∃ (bk : Bk) (x5 : Option V), σ = [some (.ref r), some (.ref l), some (.ref d), some (.int kd), some (.int dr), x5, none, none, none, none] ∧ BB H r l d cs H' bk ∧ GB cs bk ∧ bk.length ≤ i ∧ ∀ c ∈ cs.take i, [c] ∈ bk.map (·.1))
      ⟨[], none, rfl, B4, ⟨.nil, (fun _ h => by cases h)⟩, Nat.le_refl _, (fun _ h => by cases h)⟩ (fun i σ H' _ ⟨bk, x5, _, B, _⟩ => SqL.of B.hl) ?_ ?_
    · rintro i x σ H5 hx5 ⟨bk, x5, rfl, B, G, hbl, hbs⟩
      obtain ⟨c0, hc0, rfl⟩ : ∃ c0, cs[i]? = some c0 ∧ x = sg c0 := by
        rw [List.getElem?_map] at hx5
        obtain ⟨c0, h1, h2⟩ := Option.map_eq_some_iff.mp hx5
        exact ⟨c0, h1, h2.symm⟩
      refine ⟨_, rfl, by show 3 ≤ sizeLine; omega, fun q1 m1 => ?_⟩
      have C1 := B.fresh (o := .lst [.int 1, .int 1, .int 2]) m1
      refine ⟨by show 4 ≤ sizeLine; omega, fun q2 m2 => ⟨_, rfl, ?_⟩⟩
      have C2 := C1.fresh (o := .lst [.int 1, .int 2, .int 3, .int 4]) m2
      refine ⟨by show 2 ≤ sizeLine; omega, fun q3 m3 => ⟨_, rfl, _, rfl, ?_⟩⟩
      have C3 := C2.fresh (o := .lst [.int 1, .int dr]) m3
      refine ⟨by show 3 ≤ sizeLine; omega, fun q4 m4 => ?_⟩
      have C4 := C3.fresh (o := .lst [.int dr, .int 1, .int dr]) m4
      refine ⟨by show 4 ≤ sizeLine; omega, fun q5 m5 => ⟨_, rfl, ?_⟩⟩
      have C5 := C4.fresh (o := .lst [.ref q1, .ref q2, .ref q3, .ref q4]) m5
      have goal : ∀ (q : Addr) (ns : List Int) (H6 : Hp), BB H r l d cs H6 bk → H6 q = some (.lst (ns.map V.int)) → ns ≠ [] → ns.length ≤ 4 → (∀ n ∈ ns, 1 ≤ n ∧ n ≤ 99) → q ≠ r →
          sp_pick K [.ref r, .ref q] H6 (fun v H1 => ∃ x, ([some (.ref r), some (.ref l), some (.ref d), some (.int kd), some (.int dr), some (sg c0), none, none, none, none] : L2.St)[2]? = some (some x) ∧ ∃ y, ([some (.ref r), some (.ref l), some (.ref d), some (.int kd), some (.int dr), some (sg c0), none, none, none, none] : L2.St)[5]? = some (some y) ∧
            ∃ a H4, x = .ref a ∧ DPut H1 a y v H4 ∧ ∃ (bk : Bk) (x5 : Option V), ([some (.ref r), some (.ref l), some (.ref d), some (.int kd), some (.int dr), some (sg c0), none, none, none, none] : L2.St) = [some (.ref r), some (.ref l), some (.ref d), some (.int kd), some (.int dr), x5, none, none, none, none] ∧ BB H r l d cs H4 bk ∧ GB cs bk ∧ bk.length ≤ i + 1 ∧ ∀ c ∈ cs.take (i + 1), [c] ∈ bk.map (·.1)) E0 := by
        intro q ns H6 B6 hq hne hnl hns hqr
        refine ⟨r, q, _, rfl, B6.rl, SqL.of hq, hqr, by simpa using hne, by rw [List.length_map]; omega, fun x a b c hx => ?_⟩
        obtain ⟨n, hn, rfl⟩ := List.mem_map.mp hx
        have B7 := B6.reel a b c
        have hcm : c0 ∈ cs := List.mem_of_getElem? hc0
        have hil : i < cs.length := (List.getElem?_eq_some_iff.mp hc0).1
        refine ⟨_, rfl, _, rfl, d, _, rfl, B7.dput (by omega) [c0] n, putA bk [c0] n, _, rfl, B7.put _, G.put (by simp) (by simp) (by simpa using hcm) (hns n hn).1 (hns n hn).2, ?_, ?_⟩
        · have := (len_putA bk [c0] n).2
          omega
        · intro c hc
          refine mem_keys_putA.mpr ?_
          rw [List.take_add_one, hc0] at hc
          rcases List.mem_append.mp hc with h | h
          · exact .inr (hbs c h)
          · have e : c = c0 := by simpa using h
            rw [e]
            exact .inl rfl
      have e12 : q1 ≠ q2 := ne_of_none upd_same m2
      have e13 : q1 ≠ q3 := ne_of_none (by rw [upd_ne e12, upd_same]) m3
      have e23 : q2 ≠ q3 := ne_of_none upd_same m3
      have e14 : q1 ≠ q4 := ne_of_none (by rw [upd_ne e13, upd_ne e12, upd_same]) m4
      have e24 : q2 ≠ q4 := ne_of_none (by rw [upd_ne e23, upd_same]) m4
      have e34 : q3 ≠ q4 := ne_of_none upd_same m4
      have e15 : q1 ≠ q5 := ne_of_none (by rw [upd_ne e14, upd_ne e13, upd_ne e12, upd_same]) m5
      have e25 : q2 ≠ q5 := ne_of_none (by rw [upd_ne e24, upd_ne e23, upd_same]) m5
      have e35 : q3 ≠ q5 := ne_of_none (by rw [upd_ne e34, upd_same]) m5
      have e45 : q4 ≠ q5 := ne_of_none upd_same m5
      have k4 : kd = ((0 : Nat) : Int) ∨ kd = ((1 : Nat) : Int) ∨ kd = ((2 : Nat) : Int) ∨ kd = ((3 : Nat) : Int) := by omega
      rcases k4 with z | z | z | z
      · refine ⟨_, _, _, .ref q1, rfl, rfl, SqL.of upd_same, by rw [z]; exact atI_nat rfl, ?_⟩
        exact goal q1 [1, 1, 2] _ C5 (by rw [upd_ne e15, upd_ne e14, upd_ne e13, upd_ne e12, upd_same]; rfl) (by simp) (by simp) (by intro n hn; simp at hn; omega) (B.rl.ne m1).symm
      · refine ⟨_, _, _, .ref q2, rfl, rfl, SqL.of upd_same, by rw [z]; exact atI_nat rfl, ?_⟩
        exact goal q2 [1, 2, 3, 4] _ C5 (by rw [upd_ne e25, upd_ne e24, upd_ne e23, upd_same]; rfl) (by simp) (by simp) (by intro n hn; simp at hn; omega) (C1.rl.ne m2).symm
      · refine ⟨_, _, _, .ref q3, rfl, rfl, SqL.of upd_same, by rw [z]; exact atI_nat rfl, ?_⟩
        exact goal q3 [1, dr] _ C5 (by rw [upd_ne e35, upd_ne e34, upd_same]; rfl) (by simp) (by simp) (by intro n hn; simp at hn; omega) (C2.rl.ne m3).symm
      · refine ⟨_, _, _, .ref q4, rfl, rfl, SqL.of upd_same, by rw [z]; exact atI_nat rfl, ?_⟩
        exact goal q4 [dr, 1, dr] _ C5 (by rw [upd_ne e45, upd_same]; rfl) (by simp) (by simp) (by intro n hn; simp at hn; omega) (C3.rl.ne m4).symm
    · rintro σ H5 ⟨bk, x5, rfl, B, G, hbl, hbs⟩
      rw [List.length_map] at hbl hbs
      rw [List.take_length] at hbs
      refine ⟨fun σ' H' => ∃ (bk : Bk) (x5 x6 x7 x8 x9 : Option V), σ' = [some (.ref r), some (.ref l), some (.ref d), some (.int kd), some (.int dr), x5, x6, x7, x8, x9] ∧ BB H r l d cs H' bk ∧ GB cs bk ∧ bk.length ≤ 12 ∧ ∀ c ∈ cs, [c] ∈ bk.map (·.1), ?_, ?_⟩
      · refine ⟨_, rfl, _, _, rfl, rfl, _, rfl, ite2 (fun hc => ?_) (fun hc => ?_)⟩
        · refine ⟨_, rfl, l, rfl, ⟨_, SqL.of B.hl⟩, ?_⟩
          refine for_list (fun i σ' H' => ∃ (bk : Bk) (x6 x7 : Option V), σ' = [some (.ref r), some (.ref l), some (.ref d), some (.int kd), some (.int dr), x5, x6, x7, none, none] ∧ BB H r l d cs H' bk ∧ GB cs bk ∧ bk.length ≤ 12 ∧ ∀ c ∈ cs, [c] ∈ bk.map (·.1))
            ⟨bk, none, none, rfl, B, G, by omega, hbs⟩ (fun i σ H' _ ⟨bk, x6, x7, _, B, _⟩ => SqL.of B.hl) ?_ ?_
          · rintro i x σ H6 hx6 ⟨bk, x6, x7, rfl, B, G, hb12, hbs⟩
            obtain ⟨c1, hc1, rfl⟩ : ∃ c1, cs[i]? = some c1 ∧ x = sg c1 := by
              rw [List.getElem?_map] at hx6
              obtain ⟨c0, h1, h2⟩ := Option.map_eq_some_iff.mp hx6
              exact ⟨c0, h1, h2.symm⟩
            refine ⟨_, rfl, l, rfl, ⟨_, SqL.of B.hl⟩, ?_⟩
            refine for_list (fun j σ' H' => ∃ (bk : Bk) (x7 : Option V), σ' = [some (.ref r), some (.ref l), some (.ref d), some (.int kd), some (.int dr), x5, some (sg c1), x7, none, none] ∧ BB H r l d cs H' bk ∧ GB cs bk ∧ bk.length ≤ 12 ∧ ∀ c ∈ cs, [c] ∈ bk.map (·.1))
              ⟨bk, x7, rfl, B, G, hb12, hbs⟩ (fun i σ H' _ ⟨bk, x7, _, B, _⟩ => SqL.of B.hl) ?_ ?_
            · rintro j x σ H7 hx7 ⟨bk, x7, rfl, B, G, hb12, hbs⟩
              obtain ⟨c2, hc2, rfl⟩ : ∃ c2, cs[j]? = some c2 ∧ x = sg c2 := by
                rw [List.getElem?_map] at hx7
                obtain ⟨c0, h1, h2⟩ := Option.map_eq_some_iff.mp hx7
                exact ⟨c0, h1, h2.symm⟩
              refine ⟨_, rfl, r, 4, rfl, B.rl, by decide, by decide, fun v a b c h0 h1 => ?_⟩
              have B5 := B.reel a b c
              generalize upd H7 r (.lst [.int a, .int b, .int c]) = H8 at B5
              refine ⟨_, _, rfl, rfl, _, rfl, ite2 (fun hv => ⟨_, rfl, _, _, rfl, B5.hd, _, _, rfl, rfl, _, rfl, ite2 (fun hv2 => ?_) (fun hv2 => ?_)⟩) (fun hv => ?_)⟩
              · refine ⟨_, rfl, by show 4 ≤ sizeLine; omega, fun p6 np6 => ?_⟩
                have B6 := B5.fresh (o := .lst [.int 1, .int 1, .int 1, .int 2]) np6
                refine ⟨r, p6, _, rfl, B6.rl, SqL.of upd_same, (B5.rl.ne np6).symm, by simp, by show 4 ≤ 1000; decide, fun x a3 b3 c3 hx => ?_⟩
                have B7 := B6.reel a3 b3 c3
                generalize upd (upd H8 p6 (.lst [.int 1, .int 1, .int 1, .int 2])) r (.lst [.int a3, .int b3, .int c3]) = H9 at B7
                obtain ⟨n, rfl, hn1, hn2⟩ : ∃ n : Int, x = .int n ∧ 1 ≤ n ∧ n ≤ 99 := by
                  simp only [List.mem_cons, List.not_mem_nil, or_false] at hx
                  rcases hx with h | h | h | h <;> subst h <;> exact ⟨_, rfl, by decide, by decide⟩
                have hlt : bk.length < 12 := by
                  have := of_decide_eq_true hv2
                  rw [dV_length] at this
                  omega
                have hm1 : c1 ∈ cs := List.mem_of_getElem? hc1
                have hm2 : c2 ∈ cs := List.mem_of_getElem? hc2
                refine ⟨_, rfl, _, rfl, _, rfl, _, _, rfl, rfl, ?_, d, _, rfl, ?_, putA bk [c1, c2] n, _, rfl, B7.put _, G.put (by simp) (by simp) ?_ hn1 hn2, ?_, ?_⟩
                · rw [SX.S_len, SX.S_len]
                  show 1 + 1 ≤ sizeLine
                  omega
                · rw [SX.S_cat]
                  exact B7.dput (by omega) [c1, c2] n
                · intro z hz
                  simp only [List.mem_cons, List.not_mem_nil, or_false] at hz
                  rcases hz with e | e
                  · subst e; exact hm1
                  · subst e; exact hm2
                · have := (len_putA bk [c1, c2] n).2
                  omega
                · exact fun c hc => mem_keys_putA.mpr (.inr (hbs c hc))
              · exact ⟨bk, _, rfl, B5, G, hb12, hbs⟩
              · exact ⟨bk, _, rfl, B5, G, hb12, hbs⟩
            · rintro σ H7 ⟨bk, x7, rfl, B, G, hb12, hbs⟩
              exact ⟨bk, _, _, rfl, B, G, hb12, hbs⟩
          · rintro σ H6 ⟨bk, x6, x7, rfl, B, G, hb12, hbs⟩
            exact ⟨bk, _, _, _, _, _, rfl, B, G, hb12, hbs⟩
        · refine ⟨_, rfl, r, 4, rfl, B.rl, by decide, by decide, fun v a b c h0 h1 => ?_⟩
          have B5 := B.reel a b c
          generalize upd H5 r (.lst [.int a, .int b, .int c]) = H6 at B5
          obtain ⟨m, rfl⟩ : ∃ m : Nat, v = m := ⟨v.toNat, by omega⟩
          refine ⟨_, _, rfl, rfl, 1 + m, by simp, by omega, by omega, ?_⟩
          refine for_range (n := 1 + m) (fun i σ' H' => ∃ (bk : Bk) (x8 x9 : Option V), σ' = [some (.ref r), some (.ref l), some (.ref d), some (.int kd), some (.int dr), x5, none, none, x8, x9] ∧ BB H r l d cs H' bk ∧ GB cs bk ∧ bk.length ≤ 4 + i ∧ ∀ c ∈ cs, [c] ∈ bk.map (·.1))
            ⟨bk, none, none, rfl, B5, G, by omega, hbs⟩ ?_ ?_
          · rintro i σ H7 hi ⟨bk, x8, x9, rfl, B, G, hb4, hbs⟩
            refine ⟨_, rfl, _, rfl, _, rfl, r, 4, rfl, B.rl, by decide, by decide, fun v a b c h0 h1 => ?_⟩
            have B5 := B.reel a b c
            generalize upd H7 r (.lst [.int a, .int b, .int c]) = H8 at B5
            obtain ⟨u, rfl⟩ : ∃ u : Nat, v = u := ⟨v.toNat, by omega⟩
            have hcs : cs ≠ [] := by
              rintro rfl
              simp at hcl
              omega
            refine ⟨_, _, rfl, rfl, r, l, cs, 2 + u, by simp, B5.rl, B5.hl, B5.nl.symm, hcs, by omega, by omega, fun t H9 htl htc hk9 hR9 => ?_⟩
            have B9 := B5.call hk9 hR9
            have fin : ∀ (n : Int) (H10 : Hp), BB H r l d cs H10 bk → 1 ≤ n → n ≤ 99 → ∃ x, ([some (.ref r), some (.ref l), some (.ref d), some (.int kd), some (.int dr), x5, none, none, some (.int (0 + (i : Int))), some (tv t)] : L2.St)[2]? = some (some x) ∧ ∃ y, ([some (.ref r), some (.ref l), some (.ref d), some (.int kd), some (.int dr), x5, none, none, some (.int (0 + (i : Int))), some (tv t)] : L2.St)[9]? = some (some y) ∧
                ∃ a H4, x = .ref a ∧ DPut H10 a y (.int n) H4 ∧ ∃ (bk : Bk) (x8 x9 : Option V), ([some (.ref r), some (.ref l), some (.ref d), some (.int kd), some (.int dr), x5, none, none, some (.int (0 + (i : Int))), some (tv t)] : L2.St) = [some (.ref r), some (.ref l), some (.ref d), some (.int kd), some (.int dr), x5, none, none, x8, x9] ∧ BB H r l d cs H4 bk ∧ GB cs bk ∧ bk.length ≤ 4 + (i + 1) ∧ ∀ c ∈ cs, [c] ∈ bk.map (·.1) := by
              intro n H10 B10 hn1 hn2
              refine ⟨_, rfl, _, rfl, d, _, rfl, B10.dput (by omega) t n, putA bk t n, _, _, rfl, B10.put _, G.put (by omega) (by omega) htc hn1 hn2, ?_, ?_⟩
              · have := (len_putA bk t n).2
                omega
              · exact fun c hc => mem_keys_putA.mpr (.inr (hbs c hc))
            refine ⟨_, rfl, rfl, _, rfl, ite2 (fun hk0 => ?_) (fun hk0 => ?_)⟩
            · exact fin 1 H9 B9 (by decide) (by decide)
            · refine ⟨_, rfl, r, 4, rfl, B9.rl, by decide, by decide, fun v a b c h0 h1 => ⟨_, _, rfl, rfl, ?_⟩⟩
              exact fin (1 + v) _ (B9.reel a b c) (by omega) (by omega)
          · rintro σ H7 ⟨bk, x8, x9, rfl, B, G, hb4, hbs⟩
            exact ⟨bk, _, _, _, _, _, rfl, B, G, by omega, hbs⟩
      · rintro σ' H6 ⟨bk, x5, x6, x7, x8, x9, rfl, B, G, hb12, hbs⟩
        refine ⟨_, rfl, _, rfl, d, _, rfl, B.hd, fun H7 p ts hk7 p0 ts0 pts hp7 hpr => ?_⟩
        have kp7 : Kp [r] H H7 := fun b o e n => hk7 b o (B.kp b o e n)
        have hR7 : Reel H7 r := by
          obtain ⟨x, y, z, e⟩ := B.rl
          exact ⟨x, y, z, hk7 _ _ e⟩
        have hpl := hpr.length
        rw [dV_length] at hpl
        have tsr : r ∉ ts := fun z => by
          obtain ⟨x, y, z2, e⟩ := B.rl
          have := ts0 r z
          rw [e] at this
          cases this
        refine ⟨r, p, ts.map V.ref, rfl, hR7, SqL.of hp7, ?_, by rw [List.length_map]; omega, fun q ys H8 q0 hperm hk8 hR8 hq8 => ?_⟩
        · intro x hx
          obtain ⟨t, ht, rfl⟩ := List.mem_map.mp hx
          obtain ⟨j, y, e1, e2, e3⟩ := LiI.paired_ix hpr ht
          have hy := List.mem_of_getElem? e2
          obtain ⟨pp, hpp, rfl⟩ := List.mem_map.mp hy
          have hnr : t ≠ r := fun e => tsr (e ▸ ht)
          exact .inr ⟨t, pp.1, pp.2, rfl, e3, fun c hc => hclt c ((G.ok pp hpp).2.2.1 c hc)⟩
        · obtain ⟨ps, rfl, hps⟩ := perm_map_ex hperm ts rfl
          obtain ⟨kvs, hkp, hpp⟩ := paired_perm hps _ hpr
          obtain ⟨bl, rfl, hbl⟩ := perm_map_ex hkp bk rfl
          have hcs : cs ≠ [] := by
            rintro rfl
            simp at hcl
            omega
          have GG : GoodBook bl := (G.good hcs (by omega) hclt hbs hb12).perm hbl
          refine ⟨q, ps, bl.map fun p => (kx p.1, V.int p.2), rfl, SqL.of hq8, ?_, fun z z0 => ?_⟩
          · refine paired_weak hpp fun t y ht h => SqT.of (hk8 t _ h ?_)
            have : t ≠ r := fun e => tsr (e ▸ hps.mem_iff.mp ht)
            simpa using this
          · have hz : H z = none := by
              refine Kp.free (kp7.trans hk8) z0 ?_
              intro e
              rw [List.mem_singleton.mp e] at z0
              obtain ⟨x, y, w, e2⟩ := hR8
              rw [e2] at z0
              cases z0
            have e : mergeK [] (bl.map fun p => (kx p.1, V.int p.2)) = dB bl := merge_self V.int GG.nd
            rw [e]
            exact k z bl _ hz GG (((kp7.trans hk8)).up (.inl hz)) (reel_upd hR8 (hR8.ne z0)) upd_same
end
end K75
-- part C1
set_option Elab.async false
set_option linter.all false
set_option maxRecDepth 100000
set_option maxHeartbeats 4000000
namespace K75
open PySem PySem.Spec PyProof.Rows L2
/-! ### texts as lists -/
/-- b stands at the beginning of a -/
def beg (b a : Tx0) : Bool := decide (b = a.take b.length)
def fin (b a : Tx0) : Bool := decide (b.length ≤ a.length ∧ a.drop (a.length - b.length) = b)
theorem starts_S (a b : Tx0) : Txt.startswith (SX.S a) (SX.S b) = beg b a := by
  unfold Txt.startswith beg
  rw [StrLaws.subAt_eq, SX.S_len, SX.S_len, List.drop_zero, Nat.zero_add]
  show (decide (b.length ≤ a.length) && (a.take b.length == b)) = _
  rw [Bool.eq_iff_iff]
  simp only [Bool.and_eq_true, decide_eq_true_eq, beq_iff_eq]
  constructor
  · exact fun h => h.2.symm
  · intro h
    refine ⟨?_, h.symm⟩
    have := congrArg List.length h
    rw [List.length_take] at this
    omega
theorem ends_S (a b : Tx0) : Txt.endswith (SX.S a) (SX.S b) = fin b a := by
  unfold Txt.endswith fin
  rw [StrLaws.subAt_eq, SX.S_len, SX.S_len, Nat.zero_add]
  show (decide (b.length ≤ a.length) && ((a.drop (a.length - b.length)).take b.length == b)) = _
  rw [Bool.eq_iff_iff]
  simp only [Bool.and_eq_true, decide_eq_true_eq, beq_iff_eq]
  constructor
  · rintro ⟨h1, h2⟩
    refine ⟨h1, ?_⟩
    rw [List.take_of_length_le (by rw [List.length_drop]; omega)] at h2
    exact h2
  · rintro ⟨h1, h2⟩
    refine ⟨h1, ?_⟩
    rw [List.take_of_length_le (by rw [List.length_drop]; omega)]
    exact h2
/-! ### sorted lists of texts -/
theorem risingS_pw : ∀ (p : Str) (l : List Str), risingS p l = true → (p :: l).Pairwise fun a b => ¬ b.cps.toList < a.cps.toList
  | p, [], _ => List.pairwise_singleton ..
  | p, x :: r, h => by
    simp only [risingS, Bool.and_eq_true, Bool.not_eq_true', ltCps_eq, decide_eq_false_iff_not] at h
    have ih := risingS_pw x r h.2
    refine List.pairwise_cons.mpr ⟨fun y hy => ?_, ih⟩
    rcases List.mem_cons.mp hy with e | hy
    · subst e
      exact h.1
    · have h2 := List.rel_of_pairwise_cons ih hy
      exact List.not_lt.mpr (List.le_trans (List.not_lt.mp h.1) (List.not_lt.mp h2))
theorem sortedS_pw {l : List Str} (h : sortedS l = true) : l.Pairwise fun a b => ¬ b.cps.toList < a.cps.toList := by
  cases l with
  | nil => exact .nil
  | cons x r => exact risingS_pw x r h
theorem sorted_eq {l m : List Str} (hl : sortedS l = true) (hm : sortedS m = true) (p : l.Perm m) : l = m :=
  List.Perm.eq_of_pairwise (fun a b _ _ h1 h2 => TL.ext_tl (List.le_antisymm (List.not_lt.mp h1) (List.not_lt.mp h2))) (sortedS_pw hl) (sortedS_pw hm) p
/-- in order -/
def Srt (l : List Tx0) : Prop := sortedS (l.map SX.S) = true
theorem srt_eq {l m : List Tx0} (hl : Srt l) (hm : Srt m) (p : l.Perm m) : l = m := by
  have := sorted_eq hl hm (p.map SX.S)
  exact (List.map_inj_right fun _ _ => SX.S_inj).mp this
theorem perm_S {ys : List Str} {l : List Tx0} (h : ys.Perm (l.map SX.S)) (hs : sortedS ys = true) : ∃ l' : List Tx0, ys = l'.map SX.S ∧ l'.Perm l ∧ Srt l' := by
  obtain ⟨l', e, p⟩ := perm_map_ex h l rfl
  exact ⟨l', e, p, by unfold Srt; rw [← e]; exact hs⟩
/-! ### comprehensions without effects -/
theorem upd_upd {H : Hp} {D : Addr} {a b : HO} : upd (upd H D a) D b = upd H D b := by
  funext z
  by_cases h : z = D
  · subst h
    rw [upd_same, upd_same]
  · rw [upd_ne h, upd_ne h, upd_ne h]
theorem upd_lock {H : Hp} {d D : Addr} {x u o : HO} (h : H d = some u) (ne : D ≠ d) : upd (upd (upd H d x) D o) d u = upd H D o := by
  funext z
  by_cases e : z = d
  · subst e
    rw [upd_same, upd_ne ne.symm]
    exact h.symm
  · rw [upd_ne e]
    by_cases e2 : z = D
    · subst e2
      rw [upd_same, upd_same]
    · rw [upd_ne e2, upd_ne e2, upd_ne e]
theorem lc_pure {α : Type} {J : It} {G : Hp → Prop} {g : TG} {tt : TT} {te : TE} {vs : List Nat} {σ : L2.St} {H1 : Hp} {D : Addr} {Qd : Hp → Prop} (xs : List α) (v : α → V) (c : α → Bool) (e : α → V)
    (w : Walk J xs.length G (fun i H x H' => H' = H ∧ ∃ a, xs[i]? = some a ∧ x = v a)) (hG : ∀ acc, G (upd H1 D (.lst acc))) (hz : xs.length < sizeLine)
    (hs : ∀ a ∈ xs, ∀ acc (Nx : Hp → Prop), acc.length < sizeLine → (c a = true → Nx (upd H1 D (.lst (acc ++ [e a])))) → (c a = false → Nx (upd H1 D (.lst acc))) →
      g (v a) (wipe σ vs) (upd H1 D (.lst acc)) fun σ2 H2 => wipe σ2 vs = wipe σ vs ∧ tt σ2 H2 fun b H3 =>
        if b = true then te σ2 H3 fun y H4 => ∃ acc, H4 D = some (.lst acc) ∧ acc.length < sizeLine ∧ Nx (upd H4 D (.lst (acc ++ [y]))) else Nx H3)
    (hd : Qd (upd H1 D (.lst ((xs.filter c).map e)))) :
    ∃ W : Nat → Nat → Hp → Prop, (∃ m, W 0 m (upd H1 D (.lst []))) ∧ ∀ i m H, W i m H →
      (J.stop i H ∧ Qd H) ∨ (J.go i H ∧ ∃ Nx : Hp → Prop, (∀ H', Nx H' → ∃ m', m' < m ∧ W (i + 1) m' H') ∧ ∀ x H', J.yld i H x H' → g x (wipe σ vs) H' fun σ2 H2 => wipe σ2 vs = wipe σ vs ∧ tt σ2 H2 fun b H3 =>
        if b = true then te σ2 H3 fun y H4 => ∃ acc, H4 D = some (.lst acc) ∧ acc.length < sizeLine ∧ Nx (upd H4 D (.lst (acc ++ [y]))) else Nx H3) := by
  refine lc_it w (fun i H => H = upd H1 D (.lst (((xs.take i).filter c).map e))) rfl (fun i H _ h => by rw [h]; exact hG _) ?_ ?_
  · rintro i x H H' hi rfl ⟨rfl, a, ha, rfl⟩
    have hlen : (((xs.take i).filter c).map e).length < sizeLine := by
      rw [List.length_map]
      have := List.length_filter_le c (xs.take i)
      rw [List.length_take] at this
      omega
    refine hs a (List.mem_of_getElem? ha) _ _ hlen (fun hc => ?_) (fun hc => ?_)
    · rw [List.take_add_one, ha, List.filter_append, List.map_append]
      simp [hc]
    · rw [List.take_add_one, ha, List.filter_append, List.map_append]
      simp [hc]
  · rintro H rfl
    rw [List.take_length]
    exact hd
/-- over a list or a tuple -/
theorem comp_list {α : Type} {K : PySem.W.Frag} {a : Addr} {g : TG} {tt : TT} {te : TE} {vs : List Nat} {σ : L2.St} {H1 : Hp} {D : Addr} {Qd : Hp → Prop} (xs : List α) (v : α → V) (c : α → Bool) (e : α → V)
    (hG : ∀ acc, SqL K (upd H1 D (.lst acc)) a (xs.map v)) (hz : xs.length < sizeLine)
    (hs : ∀ a ∈ xs, ∀ acc (Nx : Hp → Prop), acc.length < sizeLine → (c a = true → Nx (upd H1 D (.lst (acc ++ [e a])))) → (c a = false → Nx (upd H1 D (.lst acc))) →
      g (v a) (wipe σ vs) (upd H1 D (.lst acc)) fun σ2 H2 => wipe σ2 vs = wipe σ vs ∧ tt σ2 H2 fun b H3 =>
        if b = true then te σ2 H3 fun y H4 => ∃ acc, H4 D = some (.lst acc) ∧ acc.length < sizeLine ∧ Nx (upd H4 D (.lst (acc ++ [y]))) else Nx H3)
    (hd : Qd (upd H1 D (.lst ((xs.filter c).map e)))) :
    ∃ W : Nat → Nat → Hp → Prop, (∃ m, W 0 m (upd H1 D (.lst []))) ∧ ∀ i m H, W i m H →
      ((Itl K a).stop i H ∧ Qd H) ∨ ((Itl K a).go i H ∧ ∃ Nx : Hp → Prop, (∀ H', Nx H' → ∃ m', m' < m ∧ W (i + 1) m' H') ∧ ∀ x H', (Itl K a).yld i H x H' → g x (wipe σ vs) H' fun σ2 H2 => wipe σ2 vs = wipe σ vs ∧ tt σ2 H2 fun b H3 =>
        if b = true then te σ2 H3 fun y H4 => ∃ acc, H4 D = some (.lst acc) ∧ acc.length < sizeLine ∧ Nx (upd H4 D (.lst (acc ++ [y]))) else Nx H3) :=
  lc_pure xs v c e (G := fun H => SqL K H a (xs.map v)) (by
    have := (walk_list (K := K) (a := a) (xs := xs.map v)).mono (G' := fun H => SqL K H a (xs.map v)) (Y' := fun i H x H' => H' = H ∧ ∃ a, xs[i]? = some a ∧ x = v a) (fun _ h => h) fun i H x H' _ _ y => ⟨y.1, by
      have := y.2
      rw [List.getElem?_map] at this
      obtain ⟨b, h1, h2⟩ := Option.map_eq_some_iff.mp this
      exact ⟨b, h1, h2.symm⟩⟩
    rw [List.length_map] at this
    exact this) hG hz hs hd
theorem comp_tup {α : Type} {K : PySem.W.Frag} {a : Addr} {g : TG} {tt : TT} {te : TE} {vs : List Nat} {σ : L2.St} {H1 : Hp} {D : Addr} {Qd : Hp → Prop} (xs : List α) (v : α → V) (c : α → Bool) (e : α → V)
    (hG : ∀ acc, SqT K (upd H1 D (.lst acc)) a (xs.map v)) (hz : xs.length < sizeLine)
    (hs : ∀ a ∈ xs, ∀ acc (Nx : Hp → Prop), acc.length < sizeLine → (c a = true → Nx (upd H1 D (.lst (acc ++ [e a])))) → (c a = false → Nx (upd H1 D (.lst acc))) →
      g (v a) (wipe σ vs) (upd H1 D (.lst acc)) fun σ2 H2 => wipe σ2 vs = wipe σ vs ∧ tt σ2 H2 fun b H3 =>
        if b = true then te σ2 H3 fun y H4 => ∃ acc, H4 D = some (.lst acc) ∧ acc.length < sizeLine ∧ Nx (upd H4 D (.lst (acc ++ [y]))) else Nx H3)
    (hd : Qd (upd H1 D (.lst ((xs.filter c).map e)))) :
    ∃ W : Nat → Nat → Hp → Prop, (∃ m, W 0 m (upd H1 D (.lst []))) ∧ ∀ i m H, W i m H →
      ((Itt K a).stop i H ∧ Qd H) ∨ ((Itt K a).go i H ∧ ∃ Nx : Hp → Prop, (∀ H', Nx H' → ∃ m', m' < m ∧ W (i + 1) m' H') ∧ ∀ x H', (Itt K a).yld i H x H' → g x (wipe σ vs) H' fun σ2 H2 => wipe σ2 vs = wipe σ vs ∧ tt σ2 H2 fun b H3 =>
        if b = true then te σ2 H3 fun y H4 => ∃ acc, H4 D = some (.lst acc) ∧ acc.length < sizeLine ∧ Nx (upd H4 D (.lst (acc ++ [y]))) else Nx H3) :=
  lc_pure xs v c e (G := fun H => SqT K H a (xs.map v)) (by
    have := (walk_tup (K := K) (a := a) (xs := xs.map v)).mono (G' := fun H => SqT K H a (xs.map v)) (Y' := fun i H x H' => H' = H ∧ ∃ a, xs[i]? = some a ∧ x = v a) (fun _ h => h) fun i H x H' _ _ y => ⟨y.1, by
      have := y.2
      rw [List.getElem?_map] at this
      obtain ⟨b, h1, h2⟩ := Option.map_eq_some_iff.mp this
      exact ⟨b, h1, h2.symm⟩⟩
    rw [List.length_map] at this
    exact this) hG hz hs hd
/-- over the keys of a dict, which is locked -/
theorem comp_keys {β : Type} {f : β → V} {td : TE} {g : TG} {tt : TT} {te : TE} {vs : List Nat} {σ : L2.St} {H : Hp} {d : Addr} {Q : VK} (m : List (Tx0 × β)) (c : Tx0 × β → Bool) (e : Tx0 × β → V)
    (ht : ∀ H R, R (.ref d) H → td σ H R) (hd : H d = some (.dK (dV f m))) (hz : m.length ≤ 10000)
    (hs : ∀ od D, H D = none → D ≠ d → ∀ p ∈ m, ∀ acc (Nx : Hp → Prop), acc.length < sizeLine → (c p = true → Nx (upd (upd H d (.frz od (.dK (dV f m)))) D (.lst (acc ++ [e p])))) → (c p = false → Nx (upd (upd H d (.frz od (.dK (dV f m)))) D (.lst acc))) →
      g (tv p.1) (wipe σ vs) (upd (upd H d (.frz od (.dK (dV f m)))) D (.lst acc)) fun σ2 H2 => wipe σ2 vs = wipe σ vs ∧ tt σ2 H2 fun b H3 =>
        if b = true then te σ2 H3 fun y H4 => ∃ acc, H4 D = some (.lst acc) ∧ acc.length < sizeLine ∧ Nx (upd H4 D (.lst (acc ++ [y]))) else Nx H3)
    (hq : ∀ D, H D = none → Q (.ref D) (upd H D (.lst ((m.filter c).map e)))) : tLockE (tLc (iKeys td) g tt te vs) σ H Q := by
  have h3 : sizeLine = 16777216 := sizeLine_eq
  refine ⟨d, _, hd, trivial, fun od => ht _ _ ⟨d, od, rfl, .inl ⟨_, upd_same, fun D hD => ?_⟩⟩⟩
  have hne : D ≠ d := by
    rintro rfl
    rw [upd_same] at hD
    cases hD
  have hD0 : H D = none := by rw [upd_ne hne] at hD; exact hD
  refine lc_pure m (fun p => tv p.1) c e (G := fun H => H d = some (.frz od (.dK (dV f m)))) ?_ (fun acc => by rw [upd_ne hne.symm, upd_same]) (by omega) (hs od D hD0 hne) ?_
  · have := (walk_keys (d := d) (o := od) (kvs := dV f m)).mono (G' := fun H => H d = some (.frz od (.dK (dV f m)))) (Y' := fun i H x H' => H' = H ∧ ∃ a, m[i]? = some a ∧ x = tv a.1) (fun _ h => h) fun i H x H' _ _ y => ⟨y.1, by
      obtain ⟨_, k, v, h1, h2⟩ := y
      unfold dV at h1
      rw [List.getElem?_map] at h1
      obtain ⟨b, h3, h4⟩ := Option.map_eq_some_iff.mp h1
      cases h4
      exact ⟨b, h3, h2⟩⟩
    rw [dV_length] at this
    exact this
  · refine ⟨by rw [upd_ne hne.symm, upd_same], ?_⟩
    rw [upd_lock hd hne]
    exact hq D hD0
/-- reading within the lock -/
theorem dget_frz {β : Type} {f : β → V} {H : Hp} {d D : Addr} {od : Obj} {acc : List V} {m : List (Tx0 × β)} (ne : D ≠ d) (k : Tx0) : DGet (upd (upd H d (.frz od (.dK (dV f m)))) D (.lst acc)) d (tv k) ((getA m k).map f) :=
  .inl ⟨dV f m, kx k, .inr ⟨od, by rw [upd_ne ne.symm, upd_same]⟩, rfl, (valV_dV f k m).symm⟩
theorem dget_A {β : Type} {f : β → V} {H : Hp} {d : Addr} {m : List (Tx0 × β)} (h : H d = some (.dK (dV f m))) (k : Tx0) : DGet H d (tv k) ((getA m k).map f) :=
  .inl ⟨dV f m, kx k, .inl h, rfl, (valV_dV f k m).symm⟩
end K75
-- part M1
set_option Elab.async false
set_option linter.all false
set_option maxRecDepth 100000
set_option maxHeartbeats 4000000
namespace K75
open PySem PySem.Spec PyProof.Rows L2
/-! ### what a cutter tells -/
abbrev Tb := List (Tx0 × Tx0)
abbrev pcs (bk : Bk) : List Tx0 := bk.map (·.1)
structure Pl where
  order : List Tx0
  span : Nat
  rows : Tb
  last : Tb
def firstRow (rows : Tb) (w : Tx0) (ss : List Nat) : Option Tx0 := ss.findSome? fun s => getA rows (w.take s)
def tellM (pl : Pl) (w : Tx0) (b : Bool) : Tx0 :=
  match (if b = true then getA pl.last w else none) with
  | some p => p
  | none => match firstRow pl.rows w (List.range' 1 w.length) with
    | some p => p
    | none => ((pl.order.filter fun p => beg p w).head?).getD []
/-- a text over the book -/
def Ov (bk : Bk) (t : Tx0) : Prop := ∀ c ∈ t, [c] ∈ pcs bk
structure GoodTb (bk : Bk) (n : Nat) (m : Tb) : Prop where
  nd : (m.map (·.1)).Nodup
  le : m.length ≤ 3
  ov : ∀ p ∈ m, Ov bk p.1
  ln : ∀ p ∈ m, 1 ≤ p.1.length ∧ p.1.length ≤ n
  pc : ∀ p ∈ m, p.2 ∈ pcs bk
  bg : ∀ p ∈ m, beg p.2 p.1 = true
structure GoodPl (bk : Bk) (pl : Pl) : Prop where
  od : pl.order.Perm (pcs bk)
  s1 : 1 ≤ pl.span
  s2 : pl.span ≤ 2000
  rw : GoodTb bk pl.span pl.rows
  la : GoodTb bk (pl.span - 1) pl.last
theorem ov_lt {bk : Bk} (g : GoodBook bk) {t : Tx0} (h : Ov bk t) : Lt t := fun c hc => by
  obtain ⟨p, hp, e⟩ := List.mem_map.mp (h c hc)
  exact g.lt p hp c (by rw [e]; exact List.mem_cons_self ..)
theorem ov_take {bk : Bk} {t : Tx0} (h : Ov bk t) (n : Nat) : Ov bk (t.take n) := fun c hc => h c (List.mem_of_mem_take hc)
theorem ov_drop {bk : Bk} {t : Tx0} (h : Ov bk t) (n : Nat) : Ov bk (t.drop n) := fun c hc => h c (List.mem_of_mem_drop hc)
theorem ov_app {bk : Bk} {t s : Tx0} (h : Ov bk t) (h2 : Ov bk s) : Ov bk (t ++ s) := fun c hc => (List.mem_append.mp hc).elim (h c) (h2 c)
theorem ov_nil {bk : Bk} : Ov bk [] := fun _ h => by cases h
theorem beg_len {b a : Tx0} (h : beg b a = true) : b.length ≤ a.length := by
  have := congrArg List.length (of_decide_eq_true h)
  rw [List.length_take] at this
  omega
theorem beg_take {b a : Tx0} {n : Nat} (h : beg b (a.take n) = true) : beg b a = true := by
  have h2 := beg_len h
  have h1 := of_decide_eq_true h
  rw [List.length_take] at h2
  rw [List.take_take, Nat.min_eq_left (by omega)] at h1
  exact decide_eq_true h1
theorem beg_one {c : Nat} {w : Tx0} : beg [c] (c :: w) = true := decide_eq_true rfl
theorem head_pieces {bk : Bk} {o : List Tx0} (ho : o.Perm (pcs bk)) {w : Tx0} (h : Ov bk w) (hne : w ≠ []) : ∃ p, (o.filter fun p => beg p w).head? = some p ∧ p ∈ pcs bk ∧ beg p w = true := by
  obtain ⟨c, w', rfl⟩ := List.exists_cons_of_ne_nil hne
  have hm : [c] ∈ o.filter fun p => beg p (c :: w') := List.mem_filter.mpr ⟨ho.mem_iff.mpr (h c (List.mem_cons_self ..)), beg_one⟩
  obtain ⟨p, hp⟩ : ∃ p, (o.filter fun p => beg p (c :: w')).head? = some p := by
    cases e : o.filter fun p => beg p (c :: w') with
    | nil => rw [e] at hm; cases hm
    | cons p l => exact ⟨p, rfl⟩
  have := List.mem_filter.mp (List.mem_of_mem_head? (by rw [hp]; rfl))
  exact ⟨p, hp, ho.mem_iff.mp this.1, this.2⟩
theorem tell_ok {bk : Bk} {pl : Pl} (g : GoodPl bk pl) {w : Tx0} (h : Ov bk w) (hne : w ≠ []) (b : Bool) : tellM pl w b ∈ pcs bk ∧ beg (tellM pl w b) w = true := by
  unfold tellM
  cases e1 : (if b = true then getA pl.last w else none) with
  | some p =>
    have : getA pl.last w = some p := by
      cases b
      · cases e1
      · exact e1
    have := getA_some this
    exact ⟨g.la.pc _ this, g.la.bg _ this⟩
  | none =>
    cases e2 : firstRow pl.rows w (List.range' 1 w.length) with
    | some p =>
      obtain ⟨s, hs, e3⟩ := List.exists_of_findSome?_eq_some e2
      have := getA_some e3
      exact ⟨g.rw.pc _ this, beg_take (g.rw.bg _ this)⟩
    | none =>
      obtain ⟨p, hp, h1, h2⟩ := head_pieces g.od h hne
      simp only [hp, Option.getD_some]
      exact ⟨h1, h2⟩
theorem pcs_len {bk : Bk} (g : GoodBook bk) {p : Tx0} (h : p ∈ pcs bk) : 1 ≤ p.length ∧ p.length ≤ 5 := by
  obtain ⟨q, hq, rfl⟩ := List.mem_map.mp h
  exact g.ln q hq
theorem pcs_ov {bk : Bk} (g : GoodBook bk) {p : Tx0} (h : p ∈ pcs bk) : Ov bk p := by
  obtain ⟨q, hq, rfl⟩ := List.mem_map.mp h
  exact g.sg q hq
/-! ### cuts -/
def cutM (pl : Pl) (t : Tx0) : List Tx0 :=
  if h : t = [] then [] else
    tellM pl (t.take pl.span) (decide ((t.take pl.span).length < pl.span)) :: cutM pl (t.drop (max 1 (tellM pl (t.take pl.span) (decide ((t.take pl.span).length < pl.span))).length))
termination_by t.length
decreasing_by
  rw [List.length_drop]
  have : 0 < t.length := List.length_pos_iff.mpr h
  omega
def runM (pl : Pl) (t : Tx0) : List Tx0 × Tx0 :=
  if h : pl.span ≤ t.length ∧ t ≠ [] then
    (tellM pl (t.take pl.span) false :: (runM pl (t.drop (max 1 (tellM pl (t.take pl.span) false).length))).1, (runM pl (t.drop (max 1 (tellM pl (t.take pl.span) false).length))).2)
  else ([], t)
termination_by t.length
decreasing_by
  all_goals
    rw [List.length_drop]
    have : 0 < t.length := List.length_pos_iff.mpr h.2
    omega
theorem cutM_nil (pl : Pl) : cutM pl [] = [] := by
  rw [cutM]
  rfl
theorem take_ne {t : Tx0} {n : Nat} (hn : 1 ≤ n) (h : t ≠ []) : t.take n ≠ [] := by
  obtain ⟨c, t', rfl⟩ := List.exists_cons_of_ne_nil h
  obtain ⟨m, rfl⟩ : ∃ m, n = m + 1 := ⟨n - 1, by omega⟩
  exact List.cons_ne_nil _ _
section
variable {bk : Bk} {pl : Pl}
theorem tell_len (g : GoodBook bk) (gp : GoodPl bk pl) {w : Tx0} (h : Ov bk w) (hne : w ≠ []) (b : Bool) : 1 ≤ (tellM pl w b).length ∧ (tellM pl w b).length ≤ w.length :=
  ⟨(pcs_len g (tell_ok gp h hne b).1).1, beg_len (tell_ok gp h hne b).2⟩
theorem cutM_cons (g : GoodBook bk) (gp : GoodPl bk pl) {t : Tx0} (h : Ov bk t) (hne : t ≠ []) {p : Tx0} (hp : p = tellM pl (t.take pl.span) (decide ((t.take pl.span).length < pl.span))) : cutM pl t = p :: cutM pl (t.drop p.length) := by
  rw [cutM, dif_neg hne, ← hp]
  have := (tell_len g gp (ov_take h pl.span) (take_ne gp.s1 hne) (decide ((t.take pl.span).length < pl.span))).1
  rw [← hp] at this
  rw [Nat.max_eq_right this]
theorem runM_stop {t : Tx0} (h : t.length < pl.span) : runM pl t = ([], t) := by
  rw [runM, dif_neg (by omega)]
theorem runM_cons (g : GoodBook bk) (gp : GoodPl bk pl) {t : Tx0} (h : Ov bk t) (hs : pl.span ≤ t.length) {p : Tx0} (hp : p = tellM pl (t.take pl.span) false) : runM pl t = (p :: (runM pl (t.drop p.length)).1, (runM pl (t.drop p.length)).2) := by
  have h1 := gp.s1
  have hne : t ≠ [] := by
    rintro rfl
    simp at hs
    omega
  rw [runM, dif_pos ⟨hs, hne⟩, ← hp]
  have := (tell_len g gp (ov_take h pl.span) (take_ne gp.s1 hne) false).1
  rw [← hp] at this
  rw [Nat.max_eq_right this]
/-- by induction on the length, one piece each -/
theorem run_ind (g : GoodBook bk) (gp : GoodPl bk pl) {C : Tx0 → Prop} (h0 : ∀ t, Ov bk t → t.length < pl.span → C t)
    (h1 : ∀ t p, Ov bk t → pl.span ≤ t.length → p = tellM pl (t.take pl.span) false → p ∈ pcs bk → beg p t = true → 1 ≤ p.length → p.length ≤ pl.span → C (t.drop p.length) → C t) : ∀ n t, t.length ≤ n → Ov bk t → C t := by
  intro n
  induction n with
  | zero =>
    intro t hn ho
    have := gp.s1
    exact h0 t ho (by omega)
  | succ n ih =>
    intro t hn ho
    by_cases hs : pl.span ≤ t.length
    · have hs1 := gp.s1
      have hne : t ≠ [] := by
        rintro rfl
        simp at hs
        omega
      have ok := tell_ok gp (ov_take ho pl.span) (take_ne gp.s1 hne) false
      have ln := tell_len g gp (ov_take ho pl.span) (take_ne gp.s1 hne) false
      rw [List.length_take] at ln
      refine h1 t _ ho hs rfl ok.1 (beg_take ok.2) ln.1 (by omega) (ih _ ?_ (ov_drop ho _))
      rw [List.length_drop]
      omega
    · exact h0 t ho (by omega)
theorem run_ov (g : GoodBook bk) (gp : GoodPl bk pl) {t : Tx0} (h : Ov bk t) : (runM pl t).2.length < pl.span ∧ Ov bk (runM pl t).2 ∧ (∀ p ∈ (runM pl t).1, p ∈ pcs bk) ∧ (runM pl t).1.flatten ++ (runM pl t).2 = t := by
  refine run_ind g gp (C := fun t => (runM pl t).2.length < pl.span ∧ Ov bk (runM pl t).2 ∧ (∀ p ∈ (runM pl t).1, p ∈ pcs bk) ∧ (runM pl t).1.flatten ++ (runM pl t).2 = t) ?_ ?_ t.length t (Nat.le_refl _) h
  · intro t ho hl
    rw [runM_stop hl]
    exact ⟨hl, ho, (fun _ h => by cases h), rfl⟩
  · intro t p ho hs hp hm hb h1 h2 ⟨i1, i2, i3, i4⟩
    rw [runM_cons g gp ho hs hp]
    refine ⟨i1, i2, fun q hq => ?_, ?_⟩
    · rcases List.mem_cons.mp hq with e | hq
      · rw [e]; exact hm
      · exact i3 q hq
    · have e := of_decide_eq_true hb
      rw [List.flatten_cons, List.append_assoc, i4]
      conv => lhs; lhs; rw [e]
      exact List.take_append_drop _ _
theorem run_app (g : GoodBook bk) (gp : GoodPl bk pl) {t s : Tx0} (h : Ov bk t) (h2 : Ov bk s) : runM pl (t ++ s) = ((runM pl t).1 ++ (runM pl ((runM pl t).2 ++ s)).1, (runM pl ((runM pl t).2 ++ s)).2) := by
  refine run_ind g gp (C := fun t => runM pl (t ++ s) = ((runM pl t).1 ++ (runM pl ((runM pl t).2 ++ s)).1, (runM pl ((runM pl t).2 ++ s)).2)) ?_ ?_ t.length t (Nat.le_refl _) h
  · intro t ho hl
    rw [runM_stop hl]
    rfl
  · intro t p ho hs hp hm hb h1 h3 ih
    have e1 : p = tellM pl ((t ++ s).take pl.span) false := by rw [List.take_append_of_le_length hs]; exact hp
    rw [runM_cons g gp ho hs hp, runM_cons g gp (ov_app ho h2) (by rw [List.length_append]; omega) e1, List.drop_append_of_le_length (by omega), ih]
    rfl
theorem cut_run (g : GoodBook bk) (gp : GoodPl bk pl) {t : Tx0} (h : Ov bk t) : cutM pl t = (runM pl t).1 ++ cutM pl (runM pl t).2 := by
  refine run_ind g gp (C := fun t => cutM pl t = (runM pl t).1 ++ cutM pl (runM pl t).2) ?_ ?_ t.length t (Nat.le_refl _) h
  · intro t ho hl
    rw [runM_stop hl]
    rfl
  · intro t p ho hs hp hm hb h1 h3 ih
    have hne : t ≠ [] := by
      rintro rfl
      have := gp.s1
      simp at hs
      omega
    have e1 : p = tellM pl (t.take pl.span) (decide ((t.take pl.span).length < pl.span)) := by
      rw [List.length_take, decide_eq_false (by omega)]
      exact hp
    rw [cutM_cons g gp ho hne e1, runM_cons g gp ho hs hp, ih]
    rfl
theorem cut_ok (g : GoodBook bk) (gp : GoodPl bk pl) : ∀ n (t : Tx0), t.length ≤ n → Ov bk t → (∀ p ∈ cutM pl t, p ∈ pcs bk) ∧ (cutM pl t).flatten = t := by
  intro n
  induction n with
  | zero =>
    intro t hn ho
    have e : t = [] := List.length_eq_zero_iff.mp (by omega)
    subst e
    rw [cutM_nil]
    exact ⟨(fun _ h => by cases h), rfl⟩
  | succ n ih =>
    intro t hn ho
    by_cases hne : t = []
    · subst hne
      rw [cutM_nil]
      exact ⟨(fun _ h => by cases h), rfl⟩
    · have ok := tell_ok gp (ov_take ho pl.span) (take_ne gp.s1 hne) (decide ((t.take pl.span).length < pl.span))
      have ln := tell_len g gp (ov_take ho pl.span) (take_ne gp.s1 hne) (decide ((t.take pl.span).length < pl.span))
      rw [cutM_cons g gp ho hne rfl]
      generalize tellM pl (t.take pl.span) (decide ((t.take pl.span).length < pl.span)) = p at ok ln
      rw [List.length_take] at ln
      obtain ⟨i1, i2⟩ := ih (t.drop p.length) (by rw [List.length_drop]; omega) (ov_drop ho _)
      refine ⟨fun q hq => ?_, ?_⟩
      · rcases List.mem_cons.mp hq with e | hq
        · rw [e]; exact ok.1
        · exact i1 q hq
      · have e := of_decide_eq_true (beg_take ok.2)
        rw [List.flatten_cons, i2]
        conv => lhs; lhs; rw [e]
        exact List.take_append_drop _ _
end
end K75
-- part R2
set_option Elab.async false
set_option linter.all false
set_option maxRecDepth 100000
set_option maxHeartbeats 4000000
namespace K75
open PySem PySem.Spec PyProof.Rows L2
theorem sIx_nat (n d i : Nat) : HT.sIx n d (some (i : Int)) = min i n := by
  unfold HT.sIx
  simp
  omega
theorem cut_to (t : Tx0) (n : Nat) : Txt.slice (SX.S t) none (some (n : Int)) = SX.S (t.take n) := by
  rw [SX.slice_to (by omega), Int.toNat_natCast]
theorem cut_from (t : Tx0) (n : Nat) : Txt.slice (SX.S t) (some (n : Int)) none = SX.S (t.drop n) := by
  rw [SX.slice_from (by omega), Int.toNat_natCast]
theorem cut_mid (t : Tx0) (i j : Nat) : Txt.slice (SX.S t) (some (i : Int)) (some (j : Int)) = SX.S ((t.drop i).take (j - i)) := by
  rw [← C8.cutS_slice]
  unfold cutS
  rw [sIx_nat, sIx_nat, SX.S_len]
  refine TL.ext_tl ?_
  show (t.drop (min i t.length)).take (min j t.length - min i t.length) = (t.drop i).take (j - i)
  by_cases hi : i ≤ t.length
  · rw [Nat.min_eq_left hi]
    by_cases hj : j ≤ t.length
    · rw [Nat.min_eq_left hj]
    · rw [Nat.min_eq_right (by omega), List.take_of_length_le (by rw [List.length_drop]; omega), List.take_of_length_le (by rw [List.length_drop]; omega)]
  · have hi2 : t.length ≤ i := by omega
    rw [Nat.min_eq_right hi2, List.drop_eq_nil_of_le (Nat.le_refl _), List.drop_eq_nil_of_le hi2, List.take_nil, List.take_nil]
def rSlT : V → Option Int → Option Int → Hp → VK → Prop := fun x lo hi H Q => ∃ t : Tx0, x = tv t ∧ t.length ≤ sizeLine ∧
  ((lo = none ∧ ∃ n : Nat, hi = some (n : Int) ∧ Q (tv (t.take n)) H) ∨ (hi = none ∧ ∃ n : Nat, lo = some (n : Int) ∧ Q (tv (t.drop n)) H) ∨ ∃ i j : Nat, lo = some (i : Int) ∧ hi = some (j : Int) ∧ Q (tv ((t.drop i).take (j - i))) H)
theorem sl_tx {X : Cx} : SlR X rSlT := by
  intro pins s σ H x v vl vu lo hi sl Q I rx hs pl pu h
  obtain ⟨t, hx, hz, q⟩ := h
  refine C8.sl_txt pins s σ H x v vl vu lo hi sl Q I rx hs pl pu ⟨SX.S t, hx, by rw [SX.S_len]; exact hz, ?_⟩
  rcases q with ⟨rfl, n, rfl, q⟩ | ⟨rfl, n, rfl, q⟩ | ⟨i, j, rfl, rfl, q⟩
  · rw [cut_to]; exact q
  · rw [cut_from]; exact q
  · rw [cut_mid]; exact q
/-- len(text) -/
def rLenT : List V → Hp → VK → Prop := fun xs H Q => ∃ t : Tx0, xs = [tv t] ∧ t.length ≤ sizeLine ∧ Q (.int t.length) H
theorem call_lenT {X : Cx} : CallR X (.builtin "len") rLenT := by
  intro pins s σ H xs us Q I r h
  obtain ⟨t, rfl, hz, q⟩ := h
  exact call_len pins s σ H _ us Q I r ⟨tv t, t.length, rfl, ⟨by rw [SX.S_len]; exact hz, (SX.S_len t).symm⟩, q⟩
theorem ix_listK {X : Cx} {K : PySem.W.Frag} (h : X.K = K) : IxR X (rIxL K) := by
  subst h
  exact ix_list
theorem ix_tupK {X : Cx} {K : PySem.W.Frag} (h : X.K = K) : IxR X (rIxT K) := by
  subst h
  exact ix_tup
theorem cr_minZ {X : Cx} {K : PySem.W.Frag} (h : X.K = K) (hc : X.calm = true) : CallR X (.builtin "min") (rMin K) := by
  subst h
  exact cr_min hc
end K75
-- part R3
set_option Elab.async false
set_option linter.all false
set_option maxRecDepth 100000
set_option maxHeartbeats 4000000
namespace K75
open PySem PySem.Spec PyProof.Rows L2
/-- a method with a meaning for the language: its promise -/
def Spc (P : Program) (w : World) (K : PySem.W.Frag) (mg : Str → Option Value) (base : Heap) (k : Nat) (C : Addr) (m : Str) (sp : Sp) : Prop :=
  ∃ f, PySem.W.findIn K (.ref C) m = some (some (.ref f)) ∧ PySem.W.isFn K (.ref f) = true ∧ FnR P w K mg base CX0 k f sp
section
variable {X : Cx} {k j : Nat} {C : Addr} {sp : Sp}
theorem ins_at {pins : List (Addr × Obj)} {σ : L2.St} {H : Hp} {s : Shared} {a dx : Addr} {fs : List (Str × V)} (I : Inv X pins σ H s) (h : H a = some (.ins C dx fs)) : ∃ ox od, PySem.W.InstAt s.heap a ox C od := by
  obtain ⟨mA, J, _⟩ := ins_get I.hok h
  obtain ⟨od, J, _⟩ := J.look
  exact ⟨_, _, J⟩
/-- a == b by the class's own method -/
def rEqO (C : Addr) (sp : Sp) (g : Bool → Bool) : R2 := fun x y H Q => ∃ a b dx dy fs gs, x = .ref a ∧ y = .ref b ∧ H a = some (.ins C dx fs) ∧ H b = some (.ins C dy gs) ∧ sp [.ref a, .ref b] H (fun v H' => ∃ c, v = .bl c ∧ Q (.bl (g c)) H') E0
theorem op_eqO (c : Spc X.prog X.w X.K X.mg X.base k C "__eq__" sp) (hr : Room j X.A) (hk : k ≤ j) : OpR X (compareOp .Eq) (rEqO C sp id) := by
  intro pins s σ H x y v u Q I rx ry h
  obtain ⟨a, b, dx, dy, fs, gs, rfl, rfl, ha, hb, h⟩ := h
  cases rx
  cases ry
  obtain ⟨f, hs, hf, F⟩ := c
  obtain ⟨ox, od, J⟩ := ins_at I ha
  obtain ⟨oy, ody, J'⟩ := ins_at I hb
  obtain ⟨m, hF⟩ := I.fr
  show wpAny (model X.prog X.w) X.A (richCompare .Eq (.ref a) (.ref b)) (EP X pins σ Q) X.xe s
  refine PySem.W.cmp_K (op := .Eq) (tb := .ref C) hr.units0 hF I.ok.mod.kin J J'.type (by simp [PySem.W.notFirst]) hs hf ?_
  refine wpAny_call (codeAny_mono (run_fnR (us := [.ref a, .ref b]) (vs := [.ref a, .ref b]) F (hr.mono hk) pass0 I (.cons rfl (.cons rfl .nil)) h) fun r s' hq => ?_)
  cases r with
  | error e => exact hq
  | ok fl =>
    cases fl with
    | ret u =>
      obtain ⟨v, H', I', rv, c, rfl, q⟩ := hq
      obtain rfl : u = Value.bool c := rv
      exact ⟨.bl c, H', I', rfl, q⟩
    | next => exact False.elim hq
    | brk => exact False.elim hq
    | cont => exact False.elim hq
theorem ne_plain : plainId "object.__ne__" = true := by decide +kernel
theorem ne_bind (self : Value) : bindSpecial (.builtin "object.__ne__") self = pure (.builtin "object.__ne__", [self]) :=
  (Slot.of (T := "object") (name := "__ne__") (owner := "object") (n := "__ne__") (by rw [typeLookup_type, builtinLookup_eq_fast]; kernel_rfl) (by decide +kernel) (by decide +kernel) (by decide +kernel)
    (.inl (by decide +kernel)) (by rw [isSubtype_type]; kernel_rfl)).bind self
/-- a != b, where the class has its own == and object's != -/
structure NeC (K : PySem.W.Frag) (C : Addr) : Prop where
  ne : PySem.W.findIn K (.ref C) "__ne__" = some (some (.builtin "object.__ne__"))
  ob : PySem.W.subIn K (.ref C) (.type "object") = some true
theorem op_neO (c : Spc X.prog X.w X.K X.mg X.base k C "__eq__" sp) (n : NeC X.K C) (hr : Room j X.A) (hk : k + 1 ≤ j) : OpR X (compareOp .NotEq) (rEqO C sp not) := by
  intro pins s σ H x y v u Q I rx ry h
  obtain ⟨a, b, dx, dy, fs, gs, rfl, rfl, ha, hb, h⟩ := h
  cases rx
  cases ry
  obtain ⟨f, hs, hf, F⟩ := c
  obtain ⟨ox, od, J⟩ := ins_at I ha
  obtain ⟨oy, ody, J'⟩ := ins_at I hb
  have K1 := I.kIn
  have hu := hr.units
  have eqc : wpAny (model X.prog X.w) X.A.in1 (call (.ref f) [.ref a, .ref b]) (fun v s' => ∃ c, v = .bool c ∧ EP X pins σ Q (.bool (!c)) s') X.xe s := by
    refine wpAny_call (codeAny_mono (F X.A.in1 X.stack s H [.ref a, .ref b] [.ref a, .ref b] _ E0 ((hr.mono hk).in1) I.env0.in1 (.cons rfl (.cons rfl .nil)) h) fun r s' hq => ?_)
    cases r with
    | error e => exact pass0 pins σ H s e s' I hq
    | ok fl =>
      cases fl with
      | ret u =>
        obtain ⟨v, H', I', rv, c, rfl, q⟩ := I.after hq
        obtain rfl : u = Value.bool c := rv
        exact ⟨c, rfl, .bl (!c), H', I', rfl, q⟩
      | next => exact False.elim hq
      | brk => exact False.elim hq
      | cont => exact False.elim hq
  have body : wpAny (model X.prog X.w) X.A (call (.builtin "object.__ne__") ([.ref a] ++ [.ref b])) (fun v s' => ∃ c, v = .bool c ∧ EP X pins σ Q v s') X.xe s := by
    refine wpAny_call (codeAny_call_builtin ne_plain PySem.F.cmpEntry_ne (PySem.W.check_slot PySem.F.cmpKind_ne PySem.F.cmpSplit_ne ?_ (PySem.F.cmpArgs_ne _ _) ?_))
    · exact J.type.andThen (PySem.W.looks_subIn K1 n.ob)
    · unfold Builtin.«object.__ne__»
      have hu1 : X.A.in1.units < cLine := by show X.A.units + 1 < cLine; omega
      repeat (first
        | with_reducible refine wpAny_cRoomFor hu1 ?_
        | (refine wpAny_bind (m := callSpecialIfBound? (.ref a) (Str.ofString "__eq__") [.ref b])
            (PySem.W.ifBound_K K1 J hs hf (wpAny_mono eqc (fun r s' hr => by
              obtain ⟨c, rfl, hq⟩ := hr
              repeat (first | exact ⟨_, rfl, hq⟩ | exact wpAny_pure ⟨_, rfl, hq⟩ | exact wpAny_truthy_bool ⟨_, rfl, hq⟩ | (refine wpAny_bind (m := truthy (.bool _)) (wpAny_truthy_bool ?_)) | wp_step)) fun _ _ e => e)))
        | wp_step)
  have fin : wpAny (model X.prog X.w) X.A (call (.builtin "object.__ne__") ([.ref a] ++ [.ref b]) >>= fun v => pure (some v)) (fun r s' => ∃ c, r = some (.bool c) ∧ EP X pins σ Q (.bool c) s') X.xe s :=
    wpAny_bind (wpAny_mono body (fun v s' h' => by
      obtain ⟨c, rfl, hq⟩ := h'
      exact wpAny_pure ⟨c, rfl, hq⟩) fun _ _ h' => h')
  have sp1 : wpAny (model X.prog X.w) X.A (callSpecialIfBound? (.ref a) "__ne__" [.ref b]) (fun r s' => ∃ c, r = some (.bool c) ∧ EP X pins σ Q (.bool c) s') X.xe s := by
    simp only [callSpecialIfBound?, bindSpecialIfBound?]
    refine wpAny_holding (wpAny_bind (wpAny_bind (wpAny_bind (J.type.here ((PySem.W.looks_findIn K1 n.ne).here ?_)))))
    simp only [ne_bind]
    refine wpAny_bind (wpAny_askSetting (wpAny_ite ?_))
    split
    · exact wpAny_bind (wpAny_pure (wpAny_pure fin))
    · exact wpAny_tryCatch (wpAny_bind (wpAny_pure (wpAny_pure fin)))
  have one : wpAny (model X.prog X.w) X.A (tryCompare (.ref a) "__ne__" (.ref b)) (fun r s' => ∃ c, r = some (.bool c) ∧ EP X pins σ Q (.bool c) s') X.xe s := by
    simp only [tryCompare]
    refine wpAny_bind (wpAny_mono sp1 (fun r s' hr => ?_) fun _ _ e => e)
    obtain ⟨c, rfl, hq⟩ := hr
    exact wpAny_pure ⟨c, rfl, hq⟩
  show wpAny (model X.prog X.w) X.A (richCompare .NotEq (.ref a) (.ref b)) (EP X pins σ Q) X.xe s
  unfold richCompare
  simp only [oneThing_ref]
  refine wpAny_holding (wpAny_bind (wpAny_cRoomFor hr.units0 ?_))
  rw [cmpInfo_NotEq]
  dsimp only
  refine wpAny_bind (J.type.here (wpAny_bind (J'.type.here ?_)))
  rw [if_neg (by simp)]
  refine wpAny_bind (wpAny_pure ?_)
  simp only [Bool.false_eq_true, if_false]
  refine wpAny_bind (wpAny_mono one (fun r s' z => ?_) fun _ _ e => e)
  obtain ⟨c, rfl, hq⟩ := z
  exact wpAny_pure hq
/-- len(a) by the class's own method -/
def rLenO (C : Addr) (sp : Sp) : List V → Hp → VK → Prop := fun xs H Q => ∃ a dx fs, xs = [.ref a] ∧ H a = some (.ins C dx fs) ∧ sp [.ref a] H (fun v H' => ∃ n : Nat, v = .int n ∧ n < 2 ^ 62 ∧ Q (.int n) H') E0
theorem cr_lenO (c : Spc X.prog X.w X.K X.mg X.base k C "__len__" sp) (hr : Room j X.A) (hk : k + 1 ≤ j) : CallR X (.builtin "len") (rLenO C sp) := by
  intro pins s σ H xs us Q I r h
  obtain ⟨a, dx, fs, rfl, ha, h⟩ := h
  obtain rfl := Vals.ref1 r
  obtain ⟨f, hs, hf, F⟩ := c
  obtain ⟨ox, od, J⟩ := ins_at I ha
  obtain ⟨m, hF⟩ := I.fr
  refine PySem.W.len_K hF I.ok.mod.kin J hs hf (wpAny_call (codeAny_mono (F X.A.in1 X.stack s H [.ref a] [.ref a] _ E0 ((hr.mono hk).in1) I.env0.in1 (.cons rfl .nil) h) fun r s' hq => ?_))
  cases r with
  | error e => exact pass0 pins σ H s e s' I hq
  | ok fl =>
    cases fl with
    | ret u =>
      obtain ⟨v, H', I', rv, n, rfl, hn, q⟩ := I.after hq
      obtain ⟨t, rfl⟩ := rv
      exact ⟨⟨by omega, by omega⟩, .int n, H', I'.tok _, ⟨_, rfl⟩, q⟩
    | next => exact False.elim hq
    | brk => exact False.elim hq
    | cont => exact False.elim hq
/-- bool(a) by the class's own method -/
def rBoolO (C : Addr) (sp : Sp) : List V → Hp → VK → Prop := fun xs H Q => ∃ a dx fs, xs = [.ref a] ∧ H a = some (.ins C dx fs) ∧ sp [.ref a] H (fun v H' => ∃ c, v = .bl c ∧ Q (.bl c) H') E0
theorem bool_plain : plainId "bool.__new__" = true := by decide +kernel
theorem cr_boolO (c : Spc X.prog X.w X.K X.mg X.base k C "__bool__" sp) (hr : Room j X.A) (hk : k + 2 ≤ j) : CallR X (.type "bool") (rBoolO C sp) := by
  intro pins s σ H xs us Q I r h
  obtain ⟨a, dx, fs, rfl, ha, h⟩ := h
  obtain rfl := Vals.ref1 r
  obtain ⟨f, hs, hf, F⟩ := c
  obtain ⟨ox, od, J⟩ := ins_at I ha
  obtain ⟨m, hF⟩ := I.fr
  refine callType_codes (Q₁ := fun obj s₁ => s₁.TypeIs obj "bool" ∧ EP X pins σ Q obj s₁) PySem.F.called_bool (PySem.F.typeCall_bool_1 _) PySem.F.entry_object_init ?_ fun obj s₁ h₁ => ?_
  · refine codeAny_of_tree ?_
    show wpAny _ X.A.in1.in1 (do checkBuiltinCall "bool.__new__" ⟨[.type "bool", .ref a], []⟩; again (.builtin "bool.__new__" ⟨[.type "bool", .ref a], []⟩)) _ _ s
    refine wpAny_bind (wpAny_of_eq (PySem.F.newCall_bool_1 _) (wpAny_pure ⟨plainId_quiet bool_plain _, codeAny_builtin PySem.F.entry_bool_new ?_⟩))
    rw [Around.under_plainId bool_plain _]
    have tr : wpAny (model X.prog X.w) X.A.in1.in1 (truthy (.ref a)) (fun b s' => EP X pins σ Q (.bool b) s') X.xe s := by
      refine PySem.W.truthy_K hF I.ok.mod.kin J hs hf (wpAny_call (codeAny_mono (F X.A.in1.in1 X.stack s H [.ref a] [.ref a] _ E0 ((hr.mono hk).in1.in1) I.env0.in1.in1 (.cons rfl .nil) h) fun r s' hq => ?_))
      cases r with
      | error e => exact pass0 pins σ H s e s' I hq
      | ok fl =>
        cases fl with
        | ret u =>
          obtain ⟨v, H', I', rv, c, rfl, q⟩ := I.after hq
          obtain rfl : u = Value.bool c := rv
          exact ⟨.bl c, H', I', rfl, q⟩
        | next => exact False.elim hq
        | brk => exact False.elim hq
        | cont => exact False.elim hq
    have f1 := PySem.F.conv_sub_bool
    unfold Builtin.«bool.__new__»
    repeat (any_goals (first | assumption | (refine wpAny_bind (m := truthy (.ref a)) (wpAny_mono tr (fun b s' hb => ?_) fun _ _ e => e)) | wp_step))
    exact ⟨rfl, hb⟩
  · exact ⟨h₁.1, PySem.F.args_object_init_2 obj _, object_init_meets PySem.F.called_bool.init.lookup PySem.F.called_bool.made (by decide) X.prog X.w X.A.in1 _ s₁ ⟨h₁.1, rfl, h₁.2⟩⟩
/-- a += y by the class's own method -/
def tIpO (C : Addr) (sp : Sp) : TIp := fun x y H Q => ∃ a dx fs, x = .ref a ∧ H a = some (.ins C dx fs) ∧ sp [.ref a, y] H (fun v H' => ∃ b, v = .ref b ∧ Q (.ref b) H') E0
theorem ip_own (c : Spc X.prog X.w X.K X.mg X.base k C "__iadd__" sp) (hf1 : PySem.W.selfFirst X.K C = true) (hr : Room j X.A) (hk : k ≤ j) : PIp X .Add (tIpO C sp) := by
  intro pins s σ H x y v u Q I rx ry h
  obtain ⟨a, dx, fs, rfl, ha, h⟩ := h
  cases rx
  obtain ⟨f, hs, hf, F⟩ := c
  obtain ⟨ox, od, J⟩ := ins_at I ha
  obtain ⟨m, hF⟩ := I.fr
  refine PySem.W.ksp_inplace (op := .Add) hF I.ok.mod.kin J hf1 hs hf ?_
  refine wpAny_call (codeAny_mono (run_fnR (us := [.ref a, u]) (vs := [.ref a, y]) F (hr.mono hk) pass0 I (.cons rfl (.cons ry .nil)) h) fun r s' hq => ?_)
  cases r with
  | error e => exact hq
  | ok fl =>
    cases fl with
    | ret u =>
      obtain ⟨v, H', I', rv, b, rfl, q⟩ := hq
      obtain rfl : u = Value.ref b := rv
      exact ⟨.ref b, H', I', rfl, q⟩
    | next => exact False.elim hq
    | brk => exact False.elim hq
    | cont => exact False.elim hq
/-- a property by its getter -/
def Prp (P : Program) (w : World) (K : PySem.W.Frag) (mg : Str → Option Value) (base : Heap) (k : Nat) (C : Addr) (m : Str) (sp : Sp) : Prop :=
  ∃ p g fd, Cls K C ∧ PropOf K C m p g ∧ FnOk P w K mg base CX0 k g fd ["self"] sp ∧ Binds K fd ["self"] []
theorem pe_pr {m : Str} {e : Expr} {pos : Pos} {ta : TE} (c : Prp X.prog X.w X.K X.mg X.base k C m sp) (hr : Room j X.A) (hk : k + 1 ≤ j) (he : PE X e ta)
    (hab : attributeBase e m X.env (eval e X.env) = eval e X.env := by rfl) : PE X (.Attribute e m pos) (tProp C sp [] E0 ta) := by
  obtain ⟨p, g, fd, hc, hp, F, b⟩ := c
  exact pe_prop he hc hp F (hr.mono hk) b .nil pass0 hab
/-- an instance that is called -/
def Cll (P : Program) (w : World) (K : PySem.W.Frag) (mg : Str → Option Value) (base : Heap) (k : Nat) (C : Addr) (sp : Sp) : Prop :=
  ∃ g, StX.CallO K C g ∧ FnR P w K mg base CX0 k g sp
theorem pe_cl {fe e : Expr} {es : List Expr} {pos : Pos} {tf : TE} {t : TA} (c : Cll X.prog X.w X.K X.mg X.base k C sp) (hr : Room j X.A) (hk : k ≤ j) (hf : PE X fe tf) (ha : PA X (e :: es) t)
    (ht : eval (.Call fe (e :: es) [] pos) X.env = (do callWith pos (← eval fe X.env) [] (backTo pos (starEach (e :: es) X.env)) (backToKw pos (keywordEach [] X.env))) := by rfl)
    (he : starEach (e :: es) X.env = (false, eval e X.env) :: starEach es X.env := by rfl) (hpl : (backTo pos (starEach es X.env)).any (·.1) = false := by rfl) : PE X (.Call fe (e :: es) [] pos) (StX.tCallO X C sp E0 tf t) := by
  obtain ⟨g, hc, F⟩ := c
  exact StX.pe_callO hf hc F (hr.mono hk) pass0 ha ht he hpl
/-- a classmethod called through the class's name -/
def Cmt (P : Program) (w : World) (K : PySem.W.Frag) (mg : Str → Option Value) (base : Heap) (k : Nat) (C : Addr) (m : Str) (sp : Sp) : Prop :=
  ∃ mc p g, ClX.CRead K C mc ∧ ClX.CMet K C mc m p g ∧ FnR P w K mg base CX0 k g sp
theorem pe_cm {m : Str} {o e : Expr} {es : List Expr} {apos pos : Pos} {pl : Sem Bool} {ta : TE} {t : TA} (c : Cmt X.prog X.w X.K X.mg X.base k C m sp) (hr : Room j X.A) (hk : k ≤ j) (he : PE X o ta) (ha : PA X (e :: es) t)
    (hst : starEach (e :: es) X.env = (false, eval e X.env) :: starEach es X.env := by rfl) (hpl : (backTo pos (starEach es X.env)).any (·.1) = false := by rfl)
    (ht : eval (.Call (.Attribute o m apos) (e :: es) [] pos) X.env = (do
      let ov ← eval o X.env
      standAt apos.atName
      let (f, first) ← holding [ov] (getMethod ov m pl)
      callWith pos f first (backTo pos (starEach (e :: es) X.env)) (backToKw pos (keywordEach [] X.env))) := by rfl) : PE X (.Call (.Attribute o m apos) (e :: es) [] pos) (ClX.tCMeth C sp E0 ta t) := by
  obtain ⟨mc, p, g, h1, h2, F⟩ := c
  exact ClX.pe_cmeth he h1 h2 F (hr.mono hk) pass0 ha hst hpl ht
end
end K75
-- part B2
set_option Elab.async false
set_option linter.all false
set_option maxRecDepth 100000
set_option maxHeartbeats 4000000
namespace K75
open PySem PySem.Spec PyProof.Rows L2
/-- a class that is made: its __init__ -/
def MakF (K : PySem.W.Frag) (mg : Str → Option Value) (C : Addr) (x qual : Str) (st : Stmt) (kws : List (Str × V)) : Prop :=
  ∃ f fd, Mk K C f ∧ FunD K "__init__" qual (defArgs st) (defBody st) (defScope st) [] kws f fd ∧ mg x = some (.ref C)
/-- a method with a meaning for the language -/
def SpcF (K : PySem.W.Frag) (C : Addr) (m qual : Str) (st : Stmt) : Prop :=
  ∃ f fd, PySem.W.findIn K (.ref C) m = some (some (.ref f)) ∧ PySem.W.isFn K (.ref f) = true ∧ FunD K m qual (defArgs st) (defBody st) (defScope st) [] [] f fd
/-- a property -/
def PrpF (K : PySem.W.Frag) (C : Addr) (m qual : Str) (st : Stmt) : Prop :=
  ∃ p g fd, PropOf K C m p g ∧ FunD K m qual (defArgs st) (defBody st) (defScope st) [] [] g fd
/-- __call__ -/
def CllF (K : PySem.W.Frag) (C : Addr) (qual : Str) (st : Stmt) : Prop :=
  ∃ g fd, StX.CallO K C g ∧ FunD K "__call__" qual (defArgs st) (defBody st) (defScope st) [] [] g fd
/-- a classmethod -/
def CmtF (K : PySem.W.Frag) (C : Addr) (m qual : Str) (st : Stmt) : Prop :=
  ∃ mc p g fd, ClX.CRead K C mc ∧ ClX.CMet K C mc m p g ∧ FunD K m qual (defArgs st) (defBody st) (defScope st) [] [] g fd
section
variable {P : Program} {w : World} {K : PySem.W.Frag} {mg : Str → Option Value} {base : Heap} {m qual : Str} {C : Addr} {st : Stmt} {N ps : List Str} {k : Nat} {sp : Sp}
abbrev BindAll (m qual : Str) (st : Stmt) (ps : List Str) : Prop := ∀ (kV doc pm : Value) (an : Option Addr) (cdv ct : Value) (us : List Value), us.length = ps.length → bindArgs (PySem.W.fnOf m qual (defArgs st) (defBody st) (defScope st) .none kV doc pm an cdv ct) ⟨us, []⟩ = pure (ps.zip us)
abbrev BodyOk (P : Program) (w : World) (K : PySem.W.Frag) (mg : Str → Option Value) (base : Heap) (qual : Str) (st : Stmt) (N : List Str) (k : Nat) (sp : Sp) : Prop :=
  ∀ (cdv : Value) (A : Around) (outer : List Env) (f : Addr) (s : Shared) (H : Hp) (vs : List V) (Q : VK) (E : XK), Room k (A.deeper (envOfC qual (defScope st) s.heap.objs.size f cdv)) → sp vs H Q E →
      ∃ t, PSs (cxOf CX0 P w K mg base N qual (defScope st) f cdv A outer s H E).nox (defBody st) t ∧ t { nx := fun _ H' => Q .non H', rt := Q } (start N vs) H
theorem fnOk_of {kws : List (Str × V)} {f : Addr} {fd : FuncData} (F : FunD K m qual (defArgs st) (defBody st) (defScope st) [] kws f fd) (S : FnScope N ps (defScope st)) (len : ∀ vs H Q E, sp vs H Q E → vs.length = ps.length) (hbody : BodyOk P w K mg base qual st N k sp) : FnOk P w K mg base CX0 (k + 1) f fd ps sp :=
  F.ok S len fun cdv A outer s H vs Q E hr h => by
    obtain ⟨t, ht, q⟩ := hbody cdv A outer f s H vs Q E hr h
    exact ⟨t, ht.nox, q⟩
theorem fnR_of {f : Addr} {fd : FuncData} (F : FunD K m qual (defArgs st) (defBody st) (defScope st) [] [] f fd) (S : FnScope N ps (defScope st)) (hb : BindAll m qual st ps) (len : ∀ vs H Q E, sp vs H Q E → vs.length = ps.length) (hbody : BodyOk P w K mg base qual st N k sp) : FnR P w K mg base CX0 (k + 1) f sp :=
  ((fnOk_of F S len hbody).raw (F.bindsN hb) .nil).imp fun vs H Q E h => by
    rw [List.append_nil]
    exact h
theorem spc_of (F : SpcF K C m qual st) (S : FnScope N ps (defScope st)) (hb : BindAll m qual st ps) (len : ∀ vs H Q E, sp vs H Q E → vs.length = ps.length) (hbody : BodyOk P w K mg base qual st N k sp) : Spc P w K mg base (k + 1) C m sp := by
  obtain ⟨f, fd, h1, h2, F⟩ := F
  exact ⟨f, h1, h2, fnR_of F S hb len hbody⟩
theorem cll_of (F : CllF K C qual st) (S : FnScope N ps (defScope st)) (hb : BindAll "__call__" qual st ps) (len : ∀ vs H Q E, sp vs H Q E → vs.length = ps.length) (hbody : BodyOk P w K mg base qual st N k sp) : Cll P w K mg base (k + 1) C sp := by
  obtain ⟨g, fd, h1, F⟩ := F
  exact ⟨g, h1, fnR_of F S hb len hbody⟩
theorem cmt_of (F : CmtF K C m qual st) (S : FnScope N ps (defScope st)) (hb : BindAll m qual st ps) (len : ∀ vs H Q E, sp vs H Q E → vs.length = ps.length) (hbody : BodyOk P w K mg base qual st N k sp) : Cmt P w K mg base (k + 1) C m sp := by
  obtain ⟨mc, p, g, fd, h1, h2, F⟩ := F
  exact ⟨mc, p, g, h1, h2, fnR_of F S hb len hbody⟩
theorem prp_of (F : PrpF K C m qual st) (c : Cls K C) (S : FnScope N ["self"] (defScope st)) (hb : BindAll m qual st ["self"]) (len : ∀ vs H Q E, sp vs H Q E → vs.length = 1) (hbody : BodyOk P w K mg base qual st N k sp) : Prp P w K mg base (k + 1) C m sp := by
  obtain ⟨p, g, fd, h1, F⟩ := F
  exact ⟨p, g, fd, c, h1, fnOk_of F S len hbody, F.bindsN hb⟩
theorem mak_of {x : Str} (F : MakF K mg C x qual st []) (S : FnScope N ps (defScope st)) (hb : BindAll "__init__" qual st ps) (len : ∀ vs H Q E, sp vs H Q E → vs.length = ps.length) (hbody : BodyOk P w K mg base qual st N k sp) : C8.Mak P w K mg base (k + 1) x C sp [] := by
  obtain ⟨f, fd, h1, F, h2⟩ := F
  exact ⟨f, fd, ps, [], h1, fnOk_of F S len hbody, h2, F.bindsN hb, .nil⟩
end
/-- all that the walk asks of the top -/
structure Ty (K : PySem.W.Frag) (mg : Str → Option Value) (CB CC CF : Addr) : Prop extends Tx K mg CB CC CF where
  n_BC : CB ≠ CC
  n_BF : CB ≠ CF
  n_CF : CC ≠ CF
  i_Book : MakF K mg CB "Book" "Book.__init__" s_p_Book___init__ []
  i_Cutter : MakF K mg CC "Cutter" "Cutter.__init__" s_p_Cutter___init__ [("view", .non), ("table", .non), ("ends", .non)]
  i_Feeder : MakF K mg CF "Feeder" "Feeder.__init__" s_p_Feeder___init__ []
  ne_Book : NeC K CB
  ne_Cutter : NeC K CC
  ne_Feeder : NeC K CF
  is_Book : C8.InsC K CB
  is_Cutter : C8.InsC K CC
  is_Feeder : C8.InsC K CF
  sf_Feeder : PySem.W.selfFirst K CF = true
  s_Book___eq__ : SpcF K CB "__eq__" "Book.__eq__" s_p_Book___eq__
  s_Cutter___eq__ : SpcF K CC "__eq__" "Cutter.__eq__" s_p_Cutter___eq__
  s_Cutter___call__ : CllF K CC "Cutter.__call__" s_p_Cutter___call__
  k_Cutter_longest_first : CmtF K CC "longest_first" "Cutter.longest_first" s_p_Cutter_longest_first
  s_Feeder___eq__ : SpcF K CF "__eq__" "Feeder.__eq__" s_p_Feeder___eq__
  s_Feeder___iadd__ : SpcF K CF "__iadd__" "Feeder.__iadd__" s_p_Feeder___iadd__
  s_Feeder___len__ : SpcF K CF "__len__" "Feeder.__len__" s_p_Feeder___len__
  s_Feeder___bool__ : SpcF K CF "__bool__" "Feeder.__bool__" s_p_Feeder___bool__
  p_Feeder_told : PrpF K CF "told" "Feeder.told" s_p_Feeder_told
  p_Feeder_waiting : PrpF K CF "waiting" "Feeder.waiting" s_p_Feeder_waiting
  p_Feeder_text : PrpF K CF "text" "Feeder.text" s_p_Feeder_text
  p_Feeder_spent : PrpF K CF "spent" "Feeder.spent" s_p_Feeder_spent
  p_Feeder_is_ended : PrpF K CF "is_ended" "Feeder.is_ended" s_p_Feeder_is_ended
end K75
-- part R4
set_option Elab.async false
set_option linter.all false
set_option maxRecDepth 100000
set_option maxHeartbeats 4000000
namespace K75
open PySem PySem.Spec PyProof.Rows L2
/-! isinstance of built-in kinds -/
section
variable {K : PySem.W.Frag} {H : Hp} {Q : VK}
theorem isi_ib {n : Int} (q : Q (.bl false) H) : rIsi K [.int n, .ty "bool"] H Q := ⟨_, _, _, _, false, rfl, .ty _, .base (.int _), kit_ty (by decide +kernel), q⟩
theorem isi_ii {n : Int} (q : Q (.bl true) H) : rIsi K [.int n, .ty "int"] H Q := ⟨_, _, _, _, true, rfl, .ty _, .base (.int _), kit_ty (by decide +kernel), q⟩
theorem isi_ss {t : Str} (q : Q (.bl true) H) : rIsi K [.str t, .ty "str"] H Q := ⟨_, _, _, _, true, rfl, .ty _, .base (.str _), kit_ty (by decide +kernel), q⟩
theorem isi_dd {a : Addr} {kvs : List (Key × V)} (h : H a = some (.dK kvs)) (q : Q (.bl true) H) : rIsi K [.ref a, .ty "dict"] H Q := ⟨_, _, _, _, true, rfl, .ty _, .base (.dK h), kit_ty (by decide +kernel), q⟩
theorem isi_tt {a : Addr} {xs : List V} (h : H a = some (.tup xs)) (q : Q (.bl true) H) : rIsi K [.ref a, .ty "tuple"] H Q := ⟨_, _, _, _, true, rfl, .ty _, .base (.tup h), kit_ty (by decide +kernel), q⟩
theorem cr_isi {X : Cx} (h : X.K = K) : CallR X (.builtin "isinstance") (rIsi K) := by
  subst h
  exact call_isi
/-- of an own class -/
def rIsC (C : Addr) : List V → Hp → VK → Prop := fun xs H Q => ∃ a dx fs, xs = [.ref a, .ref C] ∧ H a = some (.ins C dx fs) ∧ Q (.bl true) H
theorem cr_isC {X : Cx} {C : Addr} (c : C8.InsC X.K C) : CallR X (.builtin "isinstance") (rIsC C) := C8.call_isC c
theorem op_inK {X : Cx} (h : X.K = K) : OpR X (compareOp .In) (rIn K false) := by
  subst h
  exact op_in_seq
theorem pe_fldK {X : Cx} {e : Expr} {f : Str} {pos : Pos} {ta : TE} (hK : X.K = K) (he : PE X e ta) (hb : attributeBase e f X.env (eval e X.env) = eval e X.env := by rfl) : PE X (.Attribute e f pos) (tFld K ta f) := by
  subst hK
  exact pe_fld he hb
end
theorem iteT' {b : Bool} {p q : Prop} (h : b = true) (x : p) : if b = true then p else q := by rw [if_pos h]; exact x
theorem iteF' {b : Bool} {p q : Prop} (h : b = false) (x : q) : if b = true then p else q := by rw [h, if_neg Bool.false_ne_true]; exact x
end K75
-- part P1
set_option Elab.async false
set_option linter.all false
set_option maxRecDepth 100000
set_option maxHeartbeats 4000000
namespace K75
open PySem PySem.Spec PyProof.Rows L2
theorem gi {mg : Str → Option Value} {x : Str} {i : Int} (h : ∃ t, mg x = some (.int i t)) : ∃ u, mg x = some u ∧ RelV (.int i) u := by
  obtain ⟨t, h⟩ := h
  exact ⟨_, h, t, rfl⟩
/-- a comprehension over a text -/
theorem comp_str {g : TG} {tt : TT} {te : TE} {vs : List Nat} {σ : L2.St} {H1 : Hp} {D : Addr} {Qd : Hp → Prop} (t : Tx0) (c : Nat → Bool) (e : Nat → V) (hz : t.length < sizeLine)
    (hs : ∀ a ∈ t, ∀ acc (Nx : Hp → Prop), acc.length < sizeLine → (c a = true → Nx (upd H1 D (.lst (acc ++ [e a])))) → (c a = false → Nx (upd H1 D (.lst acc))) →
      g (sg a) (wipe σ vs) (upd H1 D (.lst acc)) fun σ2 H2 => wipe σ2 vs = wipe σ vs ∧ tt σ2 H2 fun b H3 =>
        if b = true then te σ2 H3 fun y H4 => ∃ acc, H4 D = some (.lst acc) ∧ acc.length < sizeLine ∧ Nx (upd H4 D (.lst (acc ++ [y]))) else Nx H3)
    (hd : Qd (upd H1 D (.lst ((t.filter c).map e)))) :
    ∃ W : Nat → Nat → Hp → Prop, (∃ m, W 0 m (upd H1 D (.lst []))) ∧ ∀ i m H, W i m H →
      ((Its (SX.S t)).stop i H ∧ Qd H) ∨ ((Its (SX.S t)).go i H ∧ ∃ Nx : Hp → Prop, (∀ H', Nx H' → ∃ m', m' < m ∧ W (i + 1) m' H') ∧ ∀ x H', (Its (SX.S t)).yld i H x H' → g x (wipe σ vs) H' fun σ2 H2 => wipe σ2 vs = wipe σ vs ∧ tt σ2 H2 fun b H3 =>
        if b = true then te σ2 H3 fun y H4 => ∃ acc, H4 D = some (.lst acc) ∧ acc.length < sizeLine ∧ Nx (upd H4 D (.lst (acc ++ [y]))) else Nx H3) :=
  lc_pure t (fun c => sg c) c e (G := fun _ => True) (by
    have := (walk_str (z := SX.S t)).mono (G' := fun _ => True) (Y' := fun i H x H' => H' = H ∧ ∃ a, t[i]? = some a ∧ x = sg a) (fun _ h => h) fun i H x H' _ _ y => ⟨y.1, by
      obtain ⟨_, c, h1, h2⟩ := y
      exact ⟨c, by simpa using h1, h2⟩⟩
    exact this) (fun _ => trivial) hz hs hd
theorem tv_ne {t : Tx0} (h : t ≠ []) : (!decide (tv t = V.str "")) = true := by
  have e : decide (tv t = V.str "") = false := decide_eq_false fun e => h (SX.S_inj (V.str.inj e))
  exact congrArg not e
theorem tv_nil : decide (tv [] = V.str "") = true := rfl
theorem lt_one {c d : Nat} : decide (([c] : List Nat) < [d]) = decide (c < d) := by
  rw [decide_eq_decide, List.cons_lt_cons_iff]
  simp
section
variable {P : Program} {w : World} {K : PySem.W.Frag} {mg : Str → Option Value} {base : Heap} {CB CC CF : Addr}
/-! ### numbers -/
def sp_p_is_integer : Sp := fun vs H Q _ => ∃ n : Int, vs = [.int n] ∧ -1000000 < n ∧ n < 1000000 ∧ Q (.bl true) H
theorem c_p_is_integer (T : Ty K mg CB CC CF) : C8.Cal P w K mg base 1 "is_integer" sp_p_is_integer [] := by
  refine cal_of T.d_p_is_integer sc_p_is_integer (fun _ _ _ _ _ _ us hl => match us, hl with | [_], _ => rfl) (fun vs H Q E h => ?_) (fun cdv A outer f s H vs Q E hr h => ?_)
  · obtain ⟨n, rfl, _⟩ := h
    rfl
  · obtain ⟨n, rfl, h1, h2, q⟩ := h
    refine ⟨_, (pss_cons (ps_if (PW.pt (pw_or (pt_val (pe_callB (cr_isi (K := K) rfl) (by rfl) T.n_isinstance (by decide +kernel) (pa_cons (pv 0) (pa_cons (pe_bltn (v := .ty "bool") (u := .type "bool") (by rfl) T.n_bool (by decide +kernel) rfl) pa_nil)))) (pw_or1 (pt_not (pt_val (pe_callB (cr_isi (K := K) rfl) (by rfl) T.n_isinstance (by decide +kernel) (pa_cons (pv 0) (pa_cons (pe_bltn (v := .ty "int") (u := .type "int") (by rfl) T.n_int (by decide +kernel) rfl) pa_nil))))))))
    (pss_one (ps_ret pe_bl))
    pss_nil)
  (pss_one (ps_ret (pe_cmpR op_lt (pe_callB call_abs (by rfl) T.n_abs (by decide +kernel) (pa_cons (pv 0) pa_nil)) (pe_op op_pow pe_int pe_int) (nomark _))))), ?_⟩
    refine ⟨_, rfl, _, _, _, _, false, rfl, .ty _, .base (.int _), kit_ty (by decide +kernel), _, rfl, _, rfl, _, _, _, _, true, rfl, .ty _, .base (.int _), kit_ty (by decide +kernel), _, rfl, _, rfl, _, rfl, _, _, rfl, rfl, ⟨by decide, by decide, by decide⟩, _, _, rfl, rfl, ?_⟩
    have e : decide ((if n < 0 then -n else n) < (10 : Int) ^ (60 : Int).toNat) = true := by
      have : (1000000 : Int) ≤ (10 : Int) ^ (60 : Int).toNat := by decide
      refine decide_eq_true ?_
      split <;> omega
    show Q (.bl (decide _)) H
    rw [e]
    exact q
def sp_p_is_integer_within : Sp := fun vs H Q _ => ∃ n a b : Int, vs = [.int n, .int a, .int b] ∧ -1000000 < n ∧ n < 1000000 ∧ a ≤ n ∧ n ≤ b ∧ Q (.bl true) H
theorem c_p_is_integer_within (T : Ty K mg CB CC CF) : C8.Cal P w K mg base 2 "is_integer_within" sp_p_is_integer_within [] := by
  refine cal_of T.d_p_is_integer_within sc_p_is_integer_within (fun _ _ _ _ _ _ us hl => match us, hl with | [_, _, _], _ => rfl) (fun vs H Q E h => ?_) (fun cdv A outer f s H vs Q E hr h => ?_)
  · obtain ⟨n, a, b, rfl, _⟩ := h
    rfl
  · obtain ⟨n, a, b, rfl, h1, h2, h3, h4, q⟩ := h
    refine ⟨_, (pss_one (ps_ret (pe_and (C8.pe_c (c_p_is_integer T) hr (by decide) (by rfl) (pa_cons (pv 0) pa_nil)) (pe_one (pe_chain op_le op_le (pv 1) (pv 0) (pv 2)))))), ?_⟩
    refine ⟨_, rfl, n, rfl, h1, h2, _, rfl, ?_⟩
    refine ⟨_, rfl, _, rfl, _, _, rfl, rfl, _, rfl, iteT' (decide_eq_true h3) ⟨_, rfl, _, _, rfl, rfl, ?_⟩⟩
    show Q (.bl (decide _)) H
    rw [decide_eq_true h4]
    exact q
def sp_p_is_price : Sp := fun vs H Q _ => ∃ n : Int, vs = [.int n] ∧ 1 ≤ n ∧ n ≤ 99 ∧ Q (.bl true) H
theorem c_p_is_price (T : Ty K mg CB CC CF) : C8.Cal P w K mg base 3 "is_price" sp_p_is_price [] := by
  refine cal_of T.d_p_is_price sc_p_is_price (fun _ _ _ _ _ _ us hl => match us, hl with | [_], _ => rfl) (fun vs H Q E h => ?_) (fun cdv A outer f s H vs Q E hr h => ?_)
  · obtain ⟨n, rfl, _⟩ := h
    rfl
  · obtain ⟨n, rfl, h1, h2, q⟩ := h
    refine ⟨_, (pss_one (ps_ret (C8.pe_c (c_p_is_integer_within T) hr (by decide) (by rfl) (pa_cons (pv 0) (pa_cons pe_int (pa_cons (C8.pe_gc (v := .int 99) (by rfl) (gi T.g_MAX_PRICE)) pa_nil)))))), ?_⟩
    exact ⟨_, rfl, n, 1, 99, rfl, by omega, by omega, h1, h2, q⟩
def sp_p_is_view : Sp := fun vs H Q _ => ∃ n : Int, vs = [.int n] ∧ 1 ≤ n ∧ n ≤ 2000 ∧ Q (.bl true) H
theorem c_p_is_view (T : Ty K mg CB CC CF) : C8.Cal P w K mg base 2 "is_view" sp_p_is_view [] := by
  refine cal_of T.d_p_is_view sc_p_is_view (fun _ _ _ _ _ _ us hl => match us, hl with | [_], _ => rfl) (fun vs H Q E h => ?_) (fun cdv A outer f s H vs Q E hr h => ?_)
  · obtain ⟨n, rfl, _⟩ := h
    rfl
  · obtain ⟨n, rfl, h1, h2, q⟩ := h
    refine ⟨_, (pss_one (ps_ret (pe_and (C8.pe_c (c_p_is_integer T) hr (by decide) (by rfl) (pa_cons (pv 0) pa_nil)) (pe_one (pe_chain op_le op_le pe_int (pv 0) (C8.pe_gc (v := .int 2000) (by rfl) (gi T.g_MAX_VIEW))))))), ?_⟩
    refine ⟨_, rfl, n, rfl, by omega, by omega, _, rfl, ?_⟩
    refine ⟨_, rfl, _, _, rfl, rfl, _, rfl, iteT' (decide_eq_true h1) ⟨_, _, rfl, rfl, ?_⟩⟩
    show Q (.bl (decide _)) H
    rw [decide_eq_true h2]
    exact q
/-! ### texts -/
def sp_p_is_word : Sp := fun vs H Q _ => ∃ t : Tx0, vs = [tv t] ∧ Lt t ∧ t ≠ [] ∧ t.length ≤ 10000 ∧ ∀ H', Kp [] H H' → Q (.bl true) H'
theorem c_p_is_word (T : Ty K mg CB CC CF) : C8.Cal P w K mg base 1 "is_word" sp_p_is_word [] := by
  refine cal_of T.d_p_is_word sc_p_is_word (fun _ _ _ _ _ _ us hl => match us, hl with | [_], _ => rfl) (fun vs H Q E h => ?_) (fun cdv A outer f s H vs Q E hr h => ?_)
  · obtain ⟨n, rfl, _⟩ := h
    rfl
  · obtain ⟨t, rfl, hl, hne, htl, q⟩ := h
    have h3 : sizeLine = 16777216 := sizeLine_eq
    refine ⟨_, (pss_one (ps_ret (pe_and (pe_callB (cr_isi (K := K) rfl) (by rfl) T.n_isinstance (by decide +kernel) (pa_cons (pv 0) (pa_cons (pe_bltn (v := .ty "str") (u := .type "str") (by rfl) T.n_str (by decide +kernel) rfl) pa_nil))) (pe_and (pe_cmpR op_ne (pv 0) pe_str (nomark _)) (pe_one (pe_callB (cr_all rfl) (by rfl) T.n_all (by decide +kernel) (pa_cons (pe_lc (own := [("letter", 1)]) (g := gName 1) rfl sc_p_is_word.nd (pi_str (pv 0)) (blkOk_by (own := [("letter", 1)]) (N := N_p_is_word) (sc := (defScope s_p_is_word)) (by decide +kernel)) (fun _ _ _ _ _ => (pg_name (i := 1) sc_p_is_word.nd rfl (Or.inl rfl))) (fun _ _ _ _ _ => pts_nil) (fun _ _ _ _ _ => (pe_chain op_le_str op_le_str pe_str (pv 1) pe_str))) pa_nil))))))), ?_⟩
    refine ⟨_, rfl, _, _, _, _, true, rfl, .ty _, .base (.str _), kit_ty (by decide +kernel), _, rfl, ?_⟩
    refine ⟨_, rfl, rfl, _, rfl, ?_⟩
    have hc : (!decide (tv t = V.str "")) = true := tv_ne hne
    refine iteT' hc ⟨_, rfl, _, rfl, fun D hD => ?_⟩
    refine comp_str t (fun _ => true) (fun _ => .bl true) (by omega) ?_ ?_
    · intro c hc acc Nx hz h1 h2
      have := hl c hc
      refine ⟨rfl, _, rfl, _, _, rfl, rfl, _, rfl, iteT' ?_ ⟨_, _, rfl, rfl, acc, upd_same, hz, ?_⟩⟩
      · show (!decide (([c] : List Nat) < [97])) = true
        rw [lt_one, decide_eq_false (by omega)]
        rfl
      · rw [upd_upd]
        have e : (!decide (([122] : List Nat) < [c])) = true := by
          rw [lt_one, decide_eq_false (by omega)]
          rfl
        have := h1 rfl
        rw [← e] at this
        exact this
    · refine ⟨D, t.map fun _ => true, rfl, SqL.of ?_, ?_⟩
      · rw [upd_same, List.map_map, List.filter_eq_self.mpr fun _ _ => rfl]
        rfl
      · have e : (t.map fun _ => true).all id = true := by simp
        show Q (.bl _) _
        rw [e]
        exact q _ ((kp_refl H).up (.inl hD))
end
end K75
-- part P2
set_option Elab.async false
set_option linter.all false
set_option maxRecDepth 100000
set_option maxHeartbeats 4000000
namespace K75
open PySem PySem.Spec PyProof.Rows L2
/-- what may change under others' feet: lists, feeders -/
def Vol (CF : Addr) (o : HO) : Prop := (∃ xs, o = .lst xs) ∨ ∃ dx fs, o = .ins CF dx fs
def VolAt (CF : Addr) (H : Hp) (D : List Addr) : Prop := ∀ x ∈ D, ∃ o, H x = some o ∧ Vol CF o
theorem Kp.vol {CF : Addr} {D : List Addr} {H H' : Hp} (k : Kp D H H') (v : VolAt CF H D) {a : Addr} {o : HO} (h : H a = some o) (n : ¬ Vol CF o) : H' a = some o :=
  k a o h fun hm => by
    obtain ⟨u, e, hv⟩ := v a hm
    rw [h] at e
    cases e
    exact n hv
theorem vol_nil {CF : Addr} {H : Hp} : VolAt CF H [] := fun _ h => by cases h
theorem nv_dK {CF : Addr} {kvs : List (Key × V)} : ¬ Vol CF (.dK kvs) := by rintro (⟨_, e⟩ | ⟨_, _, e⟩) <;> cases e
theorem nv_tup {CF : Addr} {xs : List V} : ¬ Vol CF (.tup xs) := by rintro (⟨_, e⟩ | ⟨_, _, e⟩) <;> cases e
theorem nv_ins {CF C dx : Addr} {fs : List (Str × V)} (h : C ≠ CF) : ¬ Vol CF (.ins C dx fs) := by
  rintro (⟨_, e⟩ | ⟨_, _, e⟩)
  · cases e
  · injection e with e1
    exact h e1
theorem vol_reel {CF : Addr} {H : Hp} {r : Addr} (h : Reel H r) : VolAt CF H [r] := fun x hx => by
  rw [List.mem_singleton.mp hx]
  obtain ⟨a, b, c, e⟩ := h
  exact ⟨_, e, .inl ⟨_, rfl⟩⟩
/-! ### a book -/
def BookO (CB dx d p al : Addr) (lg de : Int) : HO := .ins CB dx [("own_prices", .ref d), ("own_pieces", .ref p), ("own_alphabet", .ref al), ("own_longest", .int lg), ("own_dearest", .int de)]
structure BookAt (CB : Addr) (H : Hp) (a : Addr) (bk : Bk) (dx d p al : Addr) (ac : Tx0) (lg : Nat) (de : Int) : Prop where
  ha : H a = some (BookO CB dx d p al lg de)
  hd : H d = some (.dK (dB bk))
  hp : H p = some (.tup ((pcs bk).map tv))
  hl : H al = some (.tup (ac.map sg))
  hac : ∀ c, c ∈ ac ↔ [c] ∈ pcs bk
  hal : ac.length ≤ 12
  hlg : ∀ t ∈ pcs bk, t.length ≤ lg
  hlg5 : lg ≤ 5
  hlg1 : 1 ≤ lg
  hlgm : ∃ t ∈ pcs bk, t.length = lg
  g : GoodBook bk
  so : Srt (pcs bk)
def BookH (CB : Addr) (H : Hp) (a : Addr) (bk : Bk) : Prop := ∃ dx d p al ac lg de, BookAt CB H a bk dx d p al ac lg de
section
variable {CB CF : Addr} {H H' : Hp} {a : Addr} {bk : Bk} {D : List Addr}
theorem BookAt.kp {dx d p al : Addr} {ac : Tx0} {lg : Nat} {de : Int} (h : BookAt CB H a bk dx d p al ac lg de) (k : Kp D H H') (v : VolAt CF H D) (n : CB ≠ CF) : BookAt CB H' a bk dx d p al ac lg de :=
  ⟨k.vol v h.ha (nv_ins n), k.vol v h.hd nv_dK, k.vol v h.hp nv_tup, k.vol v h.hl nv_tup, h.hac, h.hal, h.hlg, h.hlg5, h.hlg1, h.hlgm, h.g, h.so⟩
theorem BookH.kp (h : BookH CB H a bk) (k : Kp D H H') (v : VolAt CF H D) (n : CB ≠ CF) : BookH CB H' a bk := by
  obtain ⟨dx, d, p, al, ac, lg, de, b⟩ := h
  exact ⟨dx, d, p, al, ac, lg, de, b.kp k v n⟩
theorem BookAt.kp0 {dx d p al : Addr} {ac : Tx0} {lg : Nat} {de : Int} (h : BookAt CB H a bk dx d p al ac lg de) (k : Kp [] H H') : BookAt CB H' a bk dx d p al ac lg de :=
  ⟨k _ _ h.ha (by simp), k _ _ h.hd (by simp), k _ _ h.hp (by simp), k _ _ h.hl (by simp), h.hac, h.hal, h.hlg, h.hlg5, h.hlg1, h.hlgm, h.g, h.so⟩
theorem BookH.kp0 (h : BookH CB H a bk) (k : Kp [] H H') : BookH CB H' a bk := by
  obtain ⟨dx, d, p, al, ac, lg, de, b⟩ := h
  exact ⟨dx, d, p, al, ac, lg, de, b.kp0 k⟩
theorem BookH.g (h : BookH CB H a bk) : GoodBook bk := by
  obtain ⟨dx, d, p, al, ac, lg, de, b⟩ := h
  exact b.g
end
theorem inV_sg {c : Nat} {ac : Tx0} : inV (sg c) (ac.map sg) = true ↔ c ∈ ac := by
  unfold inV
  rw [List.any_map, List.any_eq_true]
  constructor
  · rintro ⟨d, hd, e⟩
    have e2 : (SX.S [d] == SX.S [c]) = true := e
    rw [SX.S_beq] at e2
    have e3 := List.cons.inj (eq_of_beq e2)
    rw [← e3.1]
    exact hd
  · intro h
    refine ⟨c, h, ?_⟩
    show (SX.S [c] == SX.S [c]) = true
    rw [SX.S_beq]
    exact beq_self_eq_true _
section
variable {P : Program} {w : World} {K : PySem.W.Frag} {mg : Str → Option Value} {base : Heap} {CB CC CF : Addr}
def sp_p_is_text : Sp := fun vs H Q _ => ∃ t : Tx0, vs = [tv t] ∧ Lt t ∧ t.length ≤ 8000 ∧ ∀ H', Kp [] H H' → Q (.bl true) H'
theorem c_p_is_text (T : Ty K mg CB CC CF) : C8.Cal P w K mg base 2 "is_text" sp_p_is_text [] := by
  refine cal_of T.d_p_is_text sc_p_is_text (fun _ _ _ _ _ _ us hl => match us, hl with | [_], _ => rfl) (fun vs H Q E h => ?_) (fun cdv A outer f s H vs Q E hr h => ?_)
  · obtain ⟨n, rfl, _⟩ := h
    rfl
  · obtain ⟨t, rfl, hl, htl, q⟩ := h
    have h3 : sizeLine = 16777216 := sizeLine_eq
    refine ⟨_, (pss_cons (ps_if (PW.pt (pw_or (pt_not (pt_val (pe_callB (cr_isi (K := K) rfl) (by rfl) T.n_isinstance (by decide +kernel) (pa_cons (pv 0) (pa_cons (pe_bltn (v := .ty "str") (u := .type "str") (by rfl) T.n_str (by decide +kernel) rfl) pa_nil))))) (pw_or1 (pt_cmpR op_gt (pe_callB call_lenT (by rfl) T.n_len (by decide +kernel) (pa_cons (pv 0) pa_nil)) (C8.pe_gc (v := .int 8000) (by rfl) (gi T.g_TEXT_SIGNS)) (nomark _)))))
    (pss_one (ps_ret pe_bl))
    pss_nil)
  (pss_one (ps_ret (pe_or (pe_cmpR op_eq (pv 0) pe_str (nomark _)) (pe_one (C8.pe_c (c_p_is_word T) hr (by decide) (by rfl) (pa_cons (pv 0) pa_nil))))))), ?_⟩
    refine ⟨_, rfl, _, _, _, _, true, rfl, .ty _, .base (.str _), kit_ty (by decide +kernel), _, rfl, ?_⟩
    refine ⟨_, rfl, _, rfl, by omega, _, _, rfl, rfl, _, rfl, ?_⟩
    refine iteF' (decide_eq_false (by omega)) ?_
    refine ⟨_, rfl, rfl, _, rfl, ?_⟩
    by_cases hne : t = []
    · subst hne
      exact iteT' tv_nil (q H (kp_refl H))
    · refine iteF' ?_ ⟨_, rfl, t, rfl, hl, hne, by omega, q⟩
      exact decide_eq_false fun e => hne (SX.S_inj (V.str.inj e))
def sp_p_is_piece : Sp := fun vs H Q _ => ∃ t : Tx0, vs = [tv t] ∧ Lt t ∧ 1 ≤ t.length ∧ t.length ≤ 5 ∧ ∀ H', Kp [] H H' → Q (.bl true) H'
theorem c_p_is_piece (T : Ty K mg CB CC CF) : C8.Cal P w K mg base 2 "is_piece" sp_p_is_piece [] := by
  refine cal_of T.d_p_is_piece sc_p_is_piece (fun _ _ _ _ _ _ us hl => match us, hl with | [_], _ => rfl) (fun vs H Q E h => ?_) (fun cdv A outer f s H vs Q E hr h => ?_)
  · obtain ⟨n, rfl, _⟩ := h
    rfl
  · obtain ⟨t, rfl, hl, h1, h5, q⟩ := h
    have h3 : sizeLine = 16777216 := sizeLine_eq
    refine ⟨_, (pss_one (ps_ret (pe_and (pe_callB (cr_isi (K := K) rfl) (by rfl) T.n_isinstance (by decide +kernel) (pa_cons (pv 0) (pa_cons (pe_bltn (v := .ty "str") (u := .type "str") (by rfl) T.n_str (by decide +kernel) rfl) pa_nil))) (pe_and (pe_chain op_le op_le pe_int (pe_callB call_lenT (by rfl) T.n_len (by decide +kernel) (pa_cons (pv 0) pa_nil)) (C8.pe_gc (v := .int 5) (by rfl) (gi T.g_PIECE_SIGNS))) (pe_one (C8.pe_c (c_p_is_word T) hr (by decide) (by rfl) (pa_cons (pv 0) pa_nil))))))), ?_⟩
    refine ⟨_, rfl, _, _, _, _, true, rfl, .ty _, .base (.str _), kit_ty (by decide +kernel), _, rfl, ?_⟩
    refine ⟨_, rfl, _, rfl, by omega, _, _, rfl, rfl, _, rfl, iteT' (decide_eq_true (by omega)) ⟨_, _, rfl, rfl, _, rfl, iteT' (decide_eq_true (by omega)) ?_⟩⟩
    refine ⟨_, rfl, t, rfl, hl, ?_, by omega, q⟩
    rintro rfl
    simp at h1
def sp_p_is_text_over (CB : Addr) : Sp := fun vs H Q _ => ∃ (a : Addr) (bk : Bk) (t : Tx0), vs = [.ref a, tv t] ∧ BookH CB H a bk ∧ Ov bk t ∧ t.length ≤ 8000 ∧ ∀ H', Kp [] H H' → Q (.bl true) H'
theorem c_p_is_text_over (T : Ty K mg CB CC CF) : C8.Cal P w K mg base 3 "is_text_over" (sp_p_is_text_over CB) [] := by
  refine cal_of T.d_p_is_text_over sc_p_is_text_over (fun _ _ _ _ _ _ us hl => match us, hl with | [_, _], _ => rfl) (fun vs H Q E h => ?_) (fun cdv A outer f s H vs Q E hr h => ?_)
  · obtain ⟨a, bk, t, rfl, _⟩ := h
    rfl
  · obtain ⟨a, bk, t, rfl, ⟨dx, d, p, al, ac, lg, de, b⟩, ho, htl, q⟩ := h
    have h3 : sizeLine = 16777216 := sizeLine_eq
    refine ⟨_, (pss_one (ps_ret (pe_and (C8.pe_c (c_p_is_text T) hr (by decide) (by rfl) (pa_cons (pv 1) pa_nil)) (pe_one (pe_callB (cr_all rfl) (by rfl) T.n_all (by decide +kernel) (pa_cons (pe_lc (own := [("sign", 2)]) (g := gName 2) rfl sc_p_is_text_over.nd (pi_str (pv 1)) (blkOk_by (own := [("sign", 2)]) (N := N_p_is_text_over) (sc := (defScope s_p_is_text_over)) (by decide +kernel)) (fun _ _ _ _ _ => (pg_name (i := 2) sc_p_is_text_over.nd rfl (Or.inl rfl))) (fun _ _ _ _ _ => pts_nil) (fun _ _ _ _ _ => (pe_cmpR (op_inK (K := K) rfl) (pv 2) (pe_fldK (K := K) rfl (pv 0)) (by rfl)))) pa_nil)))))), ?_⟩
    refine ⟨_, rfl, t, rfl, ov_lt b.g ho, htl, fun H1 hk1 => ⟨_, rfl, ?_⟩⟩
    have b1 := b.kp0 hk1
    refine ⟨_, rfl, _, rfl, fun D hD => ?_⟩
    refine comp_str t (fun _ => true) (fun _ => .bl true) (by omega) ?_ ?_
    · intro c hc acc Nx hz h1 h2
      have ne1 := ne_of_none b1.ha hD
      have ne2 := ne_of_none b1.hl hD
      refine ⟨rfl, _, rfl, _, rfl, _, _, _, _, _, rfl, by rw [upd_ne ne1]; exact b1.ha, T.cl_Book, T.no_Book_own_alphabet, rfl, al, ac.map sg, rfl, ?_, rfl, ?_, acc, upd_same, hz, ?_⟩
      · exact .inr (SqT.of (by rw [upd_ne ne2]; exact b1.hl))
      · rw [List.all_map]
        exact List.all_eq_true.mpr fun _ _ => rfl
      · rw [upd_upd]
        have e : inV (sg c) (ac.map sg) = true := inV_sg.mpr ((b1.hac c).mpr (ho c hc))
        show Nx (upd H1 D (.lst (acc ++ [.bl (inV (sg c) (ac.map sg))])))
        rw [e]
        exact h1 rfl
    · refine ⟨D, t.map fun _ => true, rfl, SqL.of ?_, ?_⟩
      · rw [upd_same, List.map_map, List.filter_eq_self.mpr fun _ _ => rfl]
        rfl
      · have e : (t.map fun _ => true).all id = true := by simp
        show Q (.bl _) _
        rw [e]
        exact q _ (hk1.up (.inl (hk1.free hD (by simp))))
def sp_accepts (CB : Addr) : Sp := fun vs H Q _ => ∃ (a : Addr) (bk : Bk) (t : Tx0), vs = [.ref a, tv t] ∧ BookH CB H a bk ∧ Ov bk t ∧ t.length ≤ 8000 ∧ ∀ H', Kp [] H H' → Q (.bl true) H'
theorem c_Book_accepts (T : Ty K mg CB CC CF) : C8.Met P w K mg base 4 CB "accepts" (sp_accepts CB) [] := by
  refine met_of T.m_Book_accepts T.cl_Book sc_p_Book_accepts (fun _ _ _ _ _ _ us hl => match us, hl with | [_, _], _ => rfl) (fun vs H Q E h => ?_) (fun cdv A outer f s H vs Q E hr h => ?_)
  · obtain ⟨a, bk, t, rfl, _⟩ := h
    rfl
  · obtain ⟨a, bk, t, rfl, b, ho, htl, q⟩ := h
    refine ⟨_, (pss_one (ps_ret (C8.pe_c (c_p_is_text_over T) hr (by decide) (by rfl) (pa_cons (pv 0) (pa_cons (pv 1) pa_nil))))), ?_⟩
    exact ⟨_, rfl, _, rfl, a, bk, t, rfl, b, ho, htl, q⟩
def sp_require_text (CB : Addr) : Sp := fun vs H Q _ => ∃ (a : Addr) (bk : Bk) (t : Tx0), vs = [.ref a, tv t] ∧ BookH CB H a bk ∧ Ov bk t ∧ t.length ≤ 8000 ∧ ∀ H', Kp [] H H' → Q .non H'
theorem c_p_require_text (T : Ty K mg CB CC CF) : C8.Cal P w K mg base 4 "require_text" (sp_require_text CB) [] := by
  refine cal_of T.d_p_require_text sc_p_require_text (fun _ _ _ _ _ _ us hl => match us, hl with | [_, _], _ => rfl) (fun vs H Q E h => ?_) (fun cdv A outer f s H vs Q E hr h => ?_)
  · obtain ⟨a, bk, t, rfl, _⟩ := h
    rfl
  · obtain ⟨a, bk, t, rfl, b, ho, htl, q⟩ := h
    refine ⟨_, (pss_one (ps_if (pt_not (pt_val (C8.pe_c (c_p_is_text_over T) hr (by decide) (by rfl) (pa_cons (pv 0) (pa_cons (pv 1) pa_nil)))))
    (pss_one ps_never)
    pss_nil)), ?_⟩
    exact ⟨_, rfl, _, rfl, a, bk, t, rfl, b, ho, htl, fun H' hk => ⟨_, rfl, q H' hk⟩⟩
def sp_require_ins (C : Addr) : Sp := fun vs H Q _ => ∃ (a dx : Addr) (fs : List (Str × V)), vs = [.ref a] ∧ H a = some (.ins C dx fs) ∧ Q .non H
theorem c_p_require_book (T : Ty K mg CB CC CF) : C8.Cal P w K mg base 1 "require_book" (sp_require_ins CB) [] := by
  refine cal_of T.d_p_require_book sc_p_require_book (fun _ _ _ _ _ _ us hl => match us, hl with | [_], _ => rfl) (fun vs H Q E h => ?_) (fun cdv A outer f s H vs Q E hr h => ?_)
  · obtain ⟨a, dx, fs, rfl, _⟩ := h
    rfl
  · obtain ⟨a, dx, fs, rfl, ha, q⟩ := h
    refine ⟨_, (pss_one (ps_if (pt_not (pt_val (pe_callB (cr_isC T.is_Book) (by rfl) T.n_isinstance (by decide +kernel) (pa_cons (pv 0) (pa_cons (pe_glob (v := .ref CB) (by rfl) T.g_Book rfl) pa_nil)))))
    (pss_one ps_never)
    pss_nil)), ?_⟩
    exact ⟨_, rfl, a, dx, fs, rfl, ha, _, rfl, q⟩
theorem c_p_require_cutter (T : Ty K mg CB CC CF) : C8.Cal P w K mg base 1 "require_cutter" (sp_require_ins CC) [] := by
  refine cal_of T.d_p_require_cutter sc_p_require_cutter (fun _ _ _ _ _ _ us hl => match us, hl with | [_], _ => rfl) (fun vs H Q E h => ?_) (fun cdv A outer f s H vs Q E hr h => ?_)
  · obtain ⟨a, dx, fs, rfl, _⟩ := h
    rfl
  · obtain ⟨a, dx, fs, rfl, ha, q⟩ := h
    refine ⟨_, (pss_one (ps_if (pt_not (pt_val (pe_callB (cr_isC T.is_Cutter) (by rfl) T.n_isinstance (by decide +kernel) (pa_cons (pv 0) (pa_cons (pe_glob (v := .ref CC) (by rfl) T.g_Cutter rfl) pa_nil)))))
    (pss_one ps_never)
    pss_nil)), ?_⟩
    exact ⟨_, rfl, a, dx, fs, rfl, ha, _, rfl, q⟩
end
end K75
-- part D6
set_option Elab.async false
set_option linter.all false
set_option maxRecDepth 100000
set_option maxHeartbeats 4000000
namespace K75
open PySem PySem.Spec PyProof.Rows L2
section
variable {P : Program} {w : World} {K : PySem.W.Frag} {mg : Str → Option Value} {base : Heap} {CB CC CF : Addr}
/-! ### the signs of a book -/
def sp_signs_of : Sp := fun vs H Q _ => ∃ (d : Addr) (bk : Bk), vs = [.ref d] ∧ GoodBook bk ∧ H d = some (.dK (dB bk)) ∧
  ∀ (q : Addr) (cs : Tx0) (H' : Hp), H q = none → Kp [] H H' → H' q = some (.lst (cs.map sg)) → (∀ c, c ∈ cs ↔ [c] ∈ pcs bk) → cs ≠ [] → cs.length ≤ 12 → Q (.ref q) H'
theorem c_signs_of (T : Tx K mg CB CC CF) : C8.Cal P w K mg base 1 "_law_signs_of" sp_signs_of [] := by
  refine cal_of T.d_signs_of sc_signs_of (fun _ _ _ _ _ _ us hl => match us, hl with | [_], _ => rfl) (fun vs H Q E h => ?_) (fun cdv A outer f s H vs Q E hr h => ?_)
  · obtain ⟨r, _, rfl, _⟩ := h
    rfl
  · obtain ⟨d, bk, rfl, g, hd, k⟩ := h
    have h3 : sizeLine = 16777216 := sizeLine_eq
    have h12 := g.le
    refine ⟨_, (pss_one (ps_ret (pe_callB cr_sortedS (by rfl) T.n_sorted (by decide +kernel) (pa_cons (pe_lock (pe_lc (own := [("piece", 1)]) (g := gName 1) rfl sc_signs_of.nd (pi_keys (pv 0)) (blkOk_by (own := [("piece", 1)]) (N := N_signs_of) (sc := (defScope s_signs_of)) (by decide +kernel)) (fun _ _ _ _ _ => (pg_name (i := 1) sc_signs_of.nd rfl (Or.inl rfl))) (fun _ _ _ _ _ => (pts_one (pt_cmpR op_eq (pe_callB call_lenT (by rfl) T.n_len (by decide +kernel) (pa_cons (pv 1) pa_nil)) pe_int (nomark _)))) (fun _ _ _ _ _ => (pv 1)))) pa_nil)))), ?_⟩
    refine comp_keys bk (fun p => decide (p.1.length = 1)) (fun p => tv p.1) (fun H R h => ⟨_, rfl, h⟩) hd (by omega) ?_ ?_
    · intro od D hD hne p hp acc Nx hz h1 h2
      have := (g.ln p hp).2
      refine ⟨rfl, _, rfl, _, rfl, by omega, rfl, _, rfl, ite2 (fun hc => ?_) (fun hc => ?_)⟩
      · have e : p.1.length = 1 := by
          have := V.int.inj (of_decide_eq_true hc)
          omega
        exact ⟨_, rfl, acc, upd_same, hz, by rw [upd_upd]; exact h1 (decide_eq_true e)⟩
      · refine h2 (decide_eq_false fun e => ?_)
        rw [e] at hc
        exact absurd hc (by decide)
    · intro D hD
      refine ⟨D, (bk.filter fun p => decide (p.1.length = 1)).map fun p => SX.S p.1, rfl, SqL.of (by rw [upd_same, List.map_map]; rfl), ?_, ?_⟩
      · rw [List.length_map]
        have := List.length_filter_le (fun p : Tx0 × Int => decide (p.1.length = 1)) bk
        omega
      · intro ys q hys hso hq
        rw [show ((bk.filter fun p => decide (p.1.length = 1)).map fun p => SX.S p.1) = ((bk.filter fun p => decide (p.1.length = 1)).map (·.1)).map SX.S by rw [List.map_map]; rfl] at hys
        obtain ⟨l, rfl, hl, hsl⟩ := perm_S hys hso
        have one : ∀ t ∈ l, ∃ c, t = [c] := fun t ht => by
          obtain ⟨p, hp, rfl⟩ := List.mem_map.mp (hl.mem_iff.mp ht)
          exact one_of_len (of_decide_eq_true (List.mem_filter.mp hp).2)
        obtain ⟨cs, rfl⟩ : ∃ cs : Tx0, l = cs.map fun c => [c] := by
          clear hys hso hl hsl
          induction l with
          | nil => exact ⟨[], rfl⟩
          | cons t l ih =>
            obtain ⟨cs, rfl⟩ := ih fun t ht => one t (List.mem_cons_of_mem _ ht)
            obtain ⟨c, rfl⟩ := one t (List.mem_cons_self ..)
            exact ⟨c :: cs, rfl⟩
        have hmem : ∀ c, c ∈ cs ↔ [c] ∈ pcs bk := fun c => by
          have h4 : c ∈ cs ↔ [c] ∈ cs.map fun c => [c] := by simp
          rw [h4, hl.mem_iff, List.mem_map, List.mem_map]
          constructor
          · rintro ⟨p, hp, e⟩
            exact ⟨p, (List.mem_filter.mp hp).1, e⟩
          · rintro ⟨p, hp, e⟩
            exact ⟨p, List.mem_filter.mpr ⟨hp, by rw [e]; rfl⟩, e⟩
        have hlen := hl.length_eq
        rw [List.length_map, List.length_map] at hlen
        have h5 := List.length_filter_le (fun p : Tx0 × Int => decide (p.1.length = 1)) bk
        have hq0 : H q = none := ((kp_refl (D := []) H).up (.inl hD)).free hq (by simp)
        refine k q cs _ hq0 (((kp_refl H).up (.inl hD)).up (.inl hq0)) ?_ hmem ?_ (by omega)
        · rw [upd_same, List.map_map, List.map_map]
          rfl
        · rintro rfl
          have hbk := g.ne
          cases hb : bk with
          | nil => rw [hb] at hbk; cases hbk
          | cons p bl =>
            have hp : p ∈ bk := by rw [hb]; exact List.mem_cons_self ..
            cases e : p.1 with
            | nil =>
              have := (g.ln p hp).1
              rw [e] at this
              cases this
            | cons c t =>
              have := (hmem c).mpr (g.sg p hp c (by rw [e]; exact List.mem_cons_self ..))
              cases this
/-! ### the pieces with which a text begins -/
def sp_starting : Sp := fun vs H Q _ => ∃ (d : Addr) (bk : Bk) (t : Tx0), vs = [.ref d, tv t] ∧ GoodBook bk ∧ H d = some (.dK (dB bk)) ∧ Ov bk t ∧ t ≠ [] ∧
  ∀ (q : Addr) (ps : List Tx0) (H' : Hp), H q = none → Kp [] H H' → H' q = some (.lst (ps.map tv)) → (∀ p ∈ ps, p ∈ pcs bk ∧ beg p t = true) → ps ≠ [] → ps.length ≤ 12 → Q (.ref q) H'
theorem c_starting (T : Tx K mg CB CC CF) : C8.Cal P w K mg base 1 "_law_starting" sp_starting [] := by
  refine cal_of T.d_starting sc_starting (fun _ _ _ _ _ _ us hl => match us, hl with | [_, _], _ => rfl) (fun vs H Q E h => ?_) (fun cdv A outer f s H vs Q E hr h => ?_)
  · obtain ⟨r, _, _, rfl, _⟩ := h
    rfl
  · obtain ⟨d, bk, t, rfl, g, hd, ho, hne, k⟩ := h
    have h12 := g.le
    refine ⟨_, (pss_one (ps_ret (pe_callB cr_sortedS (by rfl) T.n_sorted (by decide +kernel) (pa_cons (pe_lock (pe_lc (own := [("piece", 2)]) (g := gName 2) rfl sc_starting.nd (pi_keys (pv 0)) (blkOk_by (own := [("piece", 2)]) (N := N_starting) (sc := (defScope s_starting)) (by decide +kernel)) (fun _ _ _ _ _ => (pg_name (i := 2) sc_starting.nd rfl (Or.inl rfl))) (fun _ _ _ _ _ => (pts_one (pt_val (pe_m1 PySem.F.slot_str_startswith PySem.F.type_str_startswith mt_startswith (pv 1) (pv 2))))) (fun _ _ _ _ _ => (pv 2)))) pa_nil)))), ?_⟩
    refine comp_keys bk (fun p => beg p.1 t) (fun p => tv p.1) (fun H R h => ⟨_, rfl, h⟩) hd (by omega) ?_ ?_
    · intro od D hD hne p hp acc Nx hz h1 h2
      refine ⟨rfl, _, rfl, ⟨_, rfl⟩, _, rfl, _, _, rfl, rfl, _, rfl, ?_⟩
      rw [starts_S]
      exact ite2 (fun hc => ⟨_, rfl, acc, upd_same, hz, by rw [upd_upd]; exact h1 hc⟩) (fun hc => h2 (by simpa using hc))
    · intro D hD
      refine ⟨D, (bk.filter fun p => beg p.1 t).map fun p => SX.S p.1, rfl, SqL.of (by rw [upd_same, List.map_map]; rfl), ?_, ?_⟩
      · rw [List.length_map]
        have := List.length_filter_le (fun p : Tx0 × Int => beg p.1 t) bk
        omega
      · intro ys q hys hso hq
        rw [show ((bk.filter fun p => beg p.1 t).map fun p => SX.S p.1) = ((bk.filter fun p => beg p.1 t).map (·.1)).map SX.S by rw [List.map_map]; rfl] at hys
        obtain ⟨l, rfl, hl, hsl⟩ := perm_S hys hso
        have hlen := hl.length_eq
        rw [List.length_map] at hlen
        have h5 := List.length_filter_le (fun p : Tx0 × Int => beg p.1 t) bk
        have hq0 : H q = none := ((kp_refl (D := []) H).up (.inl hD)).free hq (by simp)
        refine k q l _ hq0 (((kp_refl H).up (.inl hD)).up (.inl hq0)) (by rw [upd_same, List.map_map]; rfl) (fun x hx => ?_) ?_ (by omega)
        · obtain ⟨p, hp, rfl⟩ := List.mem_map.mp (hl.mem_iff.mp hx)
          have := List.mem_filter.mp hp
          exact ⟨List.mem_map_of_mem this.1, this.2⟩
        · rintro rfl
          obtain ⟨p, h6, h7, h8⟩ := head_pieces (List.Perm.refl (pcs bk)) ho hne
          obtain ⟨pp, h9, rfl⟩ := List.mem_map.mp h7
          have := hl.mem_iff.mpr (List.mem_map_of_mem (f := (·.1)) (List.mem_filter.mpr ⟨h9, h8⟩))
          cases this
end
end K75
-- part D7
set_option Elab.async false
set_option linter.all false
set_option maxRecDepth 100000
set_option maxHeartbeats 4000000
namespace K75
open PySem PySem.Spec PyProof.Rows L2
/-- the plain dict of a cutter -/
structure PlH (H : Hp) (q o r l : Addr) (pl : Pl) : Prop where
  hq : H q = some (.dK [(.inr "order", .ref o), (.inr "span", .int pl.span), (.inr "rows", .ref r), (.inr "last", .ref l)])
  ho : H o = some (.lst (pl.order.map tv))
  hr : H r = some (.dK (dV tv pl.rows))
  hl : H l = some (.dK (dV tv pl.last))
section
variable {H H' : Hp} {q o r l : Addr} {pl : Pl}
theorem PlH.kp0 (h : PlH H q o r l pl) (k : Kp [] H H') : PlH H' q o r l pl :=
  ⟨k _ _ h.hq (by simp), k _ _ h.ho (by simp), k _ _ h.hr (by simp), k _ _ h.hl (by simp)⟩
theorem tv_int {xs : List Tx0} {a b c : Int} (h : xs.map tv = [.int a, .int b, .int c]) : False := by
  cases xs with
  | nil => cases h
  | cons x xs => injection h with h1 h2; cases h1
theorem PlH.kp (h : PlH H q o r l pl) {x : Addr} (hx : Reel H x) (k : Kp [x] H H') : PlH H' q o r l pl := by
  obtain ⟨a, b, c, e⟩ := hx
  refine ⟨k _ _ h.hq fun z => ?_, k _ _ h.ho fun z => ?_, k _ _ h.hr fun z => ?_, k _ _ h.hl fun z => ?_⟩
  · have := h.hq
    rw [List.mem_singleton.mp z, e] at this
    cases this
  · have := h.ho
    rw [List.mem_singleton.mp z, e] at this
    injection this with this
    injection this with this
    exact tv_int this.symm
  · have := h.hr
    rw [List.mem_singleton.mp z, e] at this
    cases this
  · have := h.hl
    rw [List.mem_singleton.mp z, e] at this
    cases this
theorem PlH.g_order (h : PlH H q o r l pl) : DGet H q (.str "order") (some (.ref o)) := .inl ⟨_, .inr "order", .inl h.hq, rfl, rfl⟩
theorem PlH.g_span (h : PlH H q o r l pl) : DGet H q (.str "span") (some (.int pl.span)) := .inl ⟨_, .inr "span", .inl h.hq, rfl, rfl⟩
theorem PlH.g_rows (h : PlH H q o r l pl) : DGet H q (.str "rows") (some (.ref r)) := .inl ⟨_, .inr "rows", .inl h.hq, rfl, rfl⟩
theorem PlH.g_last (h : PlH H q o r l pl) : DGet H q (.str "last") (some (.ref l)) := .inl ⟨_, .inr "last", .inl h.hq, rfl, rfl⟩
end
theorem dget_S {β : Type} {f : β → V} {H : Hp} {d : Addr} {m : List (Tx0 × β)} (h : H d = some (.dK (dV f m))) {k : Tx0} {v : β} (e : getA m k = some v) : DGet H d (tv k) (some (f v)) := by
  have := dget_A h k
  rw [e] at this
  exact this
theorem firstRow_none {rows : Tb} {t : Tx0} {n : Nat} (h : ∀ s, 1 ≤ s → s ≤ n → getA rows (t.take s) = none) : firstRow rows t (List.range' 1 n) = none := by
  unfold firstRow
  rw [List.findSome?_eq_none_iff]
  intro s hs
  have := List.mem_range'_1.mp hs
  exact h s this.1 (by omega)
theorem firstRow_hit {rows : Tb} {t : Tx0} {n i : Nat} {p : Tx0} (h : ∀ s, 1 ≤ s → s ≤ i → getA rows (t.take s) = none) (hi : i < n) (hp : getA rows (t.take (i + 1)) = some p) : firstRow rows t (List.range' 1 n) = some p := by
  have e : List.range' 1 n = List.range' 1 i ++ List.range' (1 + i) (n - i) := by
    have := @List.range'_append 1 i (n - i) 1
    rw [show i + (n - i) = n by omega, Nat.one_mul] at this
    exact this.symm
  have e2 : List.range' (1 + i) (n - i) = (i + 1) :: List.range' (i + 2) (n - i - 1) := by
    obtain ⟨m, hm⟩ : ∃ m, n - i = m + 1 := ⟨n - i - 1, by omega⟩
    rw [hm, List.range'_succ, Nat.add_comm 1 i]
    rfl
  have := firstRow_none h
  unfold firstRow at this ⊢
  rw [e, e2, List.findSome?_append, this, List.findSome?_cons, hp]
  rfl
section
variable {P : Program} {w : World} {K : PySem.W.Frag} {mg : Str → Option Value} {base : Heap} {CB CC CF : Addr}
/-! ### what the plain cutter tells -/
def sp_tell : Sp := fun vs H Q _ => ∃ (q o r l : Addr) (bk : Bk) (pl : Pl) (t : Tx0) (b : Bool), vs = [.ref q, tv t, .bl b] ∧ GoodBook bk ∧ GoodPl bk pl ∧ PlH H q o r l pl ∧ Ov bk t ∧ t ≠ [] ∧ t.length ≤ 10000 ∧
  ∀ (H' : Hp), Kp [] H H' → Q (tv (tellM pl t b)) H'
theorem c_tell (T : Tx K mg CB CC CF) : C8.Cal P w K mg base 1 "_law_tell" sp_tell [] := by
  refine cal_of T.d_tell sc_tell (fun _ _ _ _ _ _ us hl => match us, hl with | [_, _, _], _ => rfl) (fun vs H Q E h => ?_) (fun cdv A outer f s H vs Q E hr h => ?_)
  · obtain ⟨q, o, r, l, bk, pl, t, b, rfl, _⟩ := h
    rfl
  · obtain ⟨q, o, r, l, bk, pl, t, b, rfl, g, gp, hp, ho, hne, htl, k⟩ := h
    have h3 : sizeLine = 16777216 := sizeLine_eq
    refine ⟨_, (C8.pss_cut (ps_if (PW.pt (pw_and (pt_val (pv 2)) (pw_and1 (pt_cmp (pc_din (hu1 hr) (pv 1) (pe_dget (hu1 hr) (pv 0) pe_str (fun _ _ => rfl)))))))
    (pss_one (ps_ret (pe_dget (hu1 hr) (pe_dget (hu1 hr) (pv 0) pe_str (fun _ _ => rfl)) (pv 1) (fun _ _ => rfl))))
    pss_nil)
  (pss_cons (ps_for PassesOwn.never rfl (pi_range2 (by rfl) T.n_range (pa_cons pe_int (pa_cons (pe_op op_add (pe_callB call_lenT (by rfl) T.n_len (by decide +kernel) (pa_cons (pv 1) pa_nil)) pe_int) pa_nil))) (pg_name (i := 3) sc_tell.nd rfl (Or.inl rfl))
    (pss_one (ps_if (pt_cmp (pc_din (hu1 hr) (pe_slice sl_tx (pv 1) po_none (po_some (pv 3))) (pe_dget (hu1 hr) (pv 0) pe_str (fun _ _ => rfl))))
      (pss_one (ps_ret (pe_dget (hu1 hr) (pe_dget (hu1 hr) (pv 0) pe_str (fun _ _ => rfl)) (pe_slice sl_tx (pv 1) po_none (po_some (pv 3))) (fun _ _ => rfl))))
      pss_nil)))
  (pss_one (ps_ret (pe_ix (ix_listK (K := K) rfl) (pe_lc (own := [("piece", 4)]) (g := gName 4) rfl sc_tell.nd (pi_list (pe_dget (hu1 hr) (pv 0) pe_str (fun _ _ => rfl))) (blkOk_by (own := [("piece", 4)]) (N := N_tell) (sc := (defScope s_tell)) (by decide +kernel)) (fun _ _ _ _ _ => (pg_name (i := 4) sc_tell.nd rfl (Or.inl rfl))) (fun _ _ _ _ _ => (pts_one (pt_val (pe_m1 PySem.F.slot_str_startswith PySem.F.type_str_startswith mt_startswith (pv 1) (pv 4))))) (fun _ _ _ _ _ => (pv 4))) pe_int (fun _ _ => rfl)))))), ?_⟩
    refine ⟨fun σ' H' => σ' = [some (.ref q), some (tv t), some (.bl b), none, none] ∧ H = H' ∧ (if b = true then getA pl.last t else none) = none, ?_, ?_⟩
    · refine ⟨_, rfl, _, rfl, ite2 (fun hb => ⟨_, rfl, _, rfl, _, _, rfl, hp.g_last, _, _, rfl, dget_A hp.hl t, _, rfl, ite2 (fun hc => ?_) (fun hc => ?_)⟩) (fun hb => ?_)⟩
      · obtain ⟨p, hp2⟩ : ∃ p, getA pl.last t = some p := by
          cases e : getA pl.last t with
          | none => rw [e] at hc; exact absurd hc (by decide)
          | some p => exact ⟨p, rfl⟩
        refine ⟨_, rfl, _, _, rfl, hp.g_last, _, rfl, _, _, rfl, dget_S hp.hl hp2, ?_⟩
        have e : tellM pl t b = p := by
          unfold tellM
          rw [if_pos hb, hp2]
        rw [← e]
        exact k H (kp_refl H)
      · refine ⟨rfl, rfl, ?_⟩
        rw [if_pos hb]
        cases e : getA pl.last t with
        | none => rfl
        | some p => rw [e] at hc; exact absurd rfl hc
      · exact ⟨rfl, rfl, if_neg hb⟩
    · rintro σ' H' ⟨rfl, rfl, hn⟩
      refine ⟨_, rfl, _, rfl, by omega, _, _, rfl, rfl, 1, ((t.length : Int) + 1), rfl, ⟨by omega, by omega, by omega, by omega⟩, ?_⟩
      rw [show ((t.length : Int) + 1 - 1).toNat = t.length by omega]
      refine for_range (lo := 1) (n := t.length) (fun i σ' H' => ∃ x : Option V, σ' = [some (.ref q), some (tv t), some (.bl b), x, none] ∧ H = H' ∧ ∀ s, 1 ≤ s → s ≤ i → getA pl.rows (t.take s) = none) ⟨none, rfl, rfl, fun s h1 h2 => by omega⟩ ?_ ?_
      · rintro i σ H1 hi ⟨x, rfl, rfl, hno⟩
        have hlt : t.length ≤ sizeLine := by omega
        refine ⟨_, rfl, _, rfl, _, rfl, _, rfl, hlt, .inl ⟨rfl, i + 1, by rw [Int.add_comm]; rfl, _, rfl, _, _, rfl, hp.g_rows, _, _, rfl, dget_A hp.hr _, _, rfl, ite2 (fun hc => ?_) (fun hc => ?_)⟩⟩
        · obtain ⟨p, hp2⟩ : ∃ p, getA pl.rows (t.take (i + 1)) = some p := by
            cases e : getA pl.rows (t.take (i + 1)) with
            | none => rw [e] at hc; exact absurd hc (by decide)
            | some p => exact ⟨p, rfl⟩
          refine ⟨_, rfl, _, _, rfl, hp.g_rows, _, rfl, _, rfl, _, rfl, _, rfl, hlt, .inl ⟨rfl, i + 1, by rw [Int.add_comm]; rfl, _, _, rfl, dget_S hp.hr hp2, ?_⟩⟩
          have e : tellM pl t b = p := by
            unfold tellM
            rw [hn, firstRow_hit hno hi hp2]
          rw [← e]
          exact k _ (kp_refl _)
        · refine ⟨_, rfl, rfl, fun s h1 h2 => ?_⟩
          by_cases h4 : s ≤ i
          · exact hno s h1 h4
          · rw [show s = i + 1 by omega]
            cases e : getA pl.rows (t.take (i + 1)) with
            | none => rfl
            | some p => rw [e] at hc; exact absurd rfl hc
      · rintro σ H1 ⟨x, rfl, rfl, hno⟩
        obtain ⟨p, hp1, hp2, hp3⟩ := head_pieces gp.od ho hne
        have hol : pl.order.length ≤ 12 := by
          have := gp.od.length_eq
          have h5 := g.le
          rw [List.length_map] at this
          omega
        refine ⟨_, rfl, _, _, rfl, hp.g_order, o, rfl, ⟨_, SqL.of hp.ho⟩, fun D hD => ?_⟩
        refine comp_list pl.order tv (fun p => beg p t) tv (fun acc => sqL_upd (SqL.of hp.ho) (ne_of_none hp.ho hD)) (by omega) ?_ ?_
        · intro a ha acc Nx hz h1 h2
          refine ⟨rfl, _, rfl, ⟨_, rfl⟩, _, rfl, _, _, rfl, rfl, _, rfl, ?_⟩
          rw [starts_S]
          exact ite2 (fun hc => ⟨_, rfl, acc, upd_same, hz, by rw [upd_upd]; exact h1 hc⟩) (fun hc => h2 (by simpa using hc))
        · obtain ⟨l', hl'⟩ : ∃ l', pl.order.filter (fun p => beg p t) = p :: l' := by
            cases e : pl.order.filter (fun p => beg p t) with
            | nil => rw [e] at hp1; cases hp1
            | cons a l' => rw [e] at hp1; cases hp1; exact ⟨l', rfl⟩
          refine ⟨_, _, _, tv p, rfl, rfl, SqL.of upd_same, by rw [hl']; exact atI_nat rfl, ?_⟩
          have e : tellM pl t b = p := by
            unfold tellM
            rw [hn, firstRow_none hno, hp1]
            rfl
          rw [← e]
          exact k _ ((kp_refl _).up (.inl hD))
end
end K75
-- part D8
set_option Elab.async false
set_option linter.all false
set_option maxRecDepth 100000
set_option maxHeartbeats 4000000
namespace K75
open PySem PySem.Spec PyProof.Rows L2
theorem atI_end {α : Type} (xs : List α) (y : α) : atI (xs ++ [y]) (-1) = some y := by
  have e : ixN (xs ++ [y]).length (-1) = some xs.length := by
    unfold ixN
    rw [List.length_append, List.length_singleton, if_neg (by decide), if_pos (by omega)]
    congr 1
    omega
  unfold atI
  rw [e]
  simp
def slen (σ : L2.St) (i : Nat) : Nat := match σ[i]? with | some (some (.str z)) => z.length | _ => 0
section
variable {P : Program} {w : World} {K : PySem.W.Frag} {mg : Str → Option Value} {base : Heap} {CB CC CF : Addr}
/-! ### the cut of the plain cutter -/
def sp_cut : Sp := fun vs H Q _ => ∃ (q o r l : Addr) (bk : Bk) (pl : Pl) (t : Tx0), vs = [.ref q, tv t] ∧ GoodBook bk ∧ GoodPl bk pl ∧ PlH H q o r l pl ∧ Ov bk t ∧ t.length ≤ 10000 ∧
  ∀ (f : Addr) (H' : Hp), H f = none → Kp [] H H' → H' f = some (.lst ((cutM pl t).map tv)) → Q (.ref f) H'
theorem c_cut (T : Tx K mg CB CC CF) : C8.Cal P w K mg base 2 "_law_cut" sp_cut [] := by
  refine cal_of T.d_cut sc_cut (fun _ _ _ _ _ _ us hl => match us, hl with | [_, _], _ => rfl) (fun vs H Q E h => ?_) (fun cdv A outer f s H vs Q E hr h => ?_)
  · obtain ⟨q, o, r, l, bk, pl, t, rfl, _⟩ := h
    rfl
  · obtain ⟨q, o, r, l, bk, pl, t, rfl, g, gp, hp, ho, htl, k⟩ := h
    have h3 : sizeLine = 16777216 := sizeLine_eq
    have hs1 := gp.s1
    refine ⟨_, (pss_cons (ps_par (i := 2) (j := 3) (by rfl) sc_cut.nd rfl rfl (by decide) rfl rfl (pa_cons (pe_lst pa_nil) (pa_cons (pv 1) pa_nil)) (by rfl))
  (pss_cons (ps_while PassesOwn.never (pt_cmpR op_ne (pv 3) pe_str (nomark _))
    (pss_cons (ps_set (i := 4) sc_cut.nd rfl (Or.inl rfl) (pe_slice sl_tx (pv 3) po_none (po_some (pe_dget (hu1 hr) (pv 0) pe_str (fun _ _ => rfl)))))
    (pss_cons (ps_expr (pe_bm PySem.F.plainAttrs_list PySem.F.slot_list_append PySem.F.type_list_append mt_append (pv 2) (pa_cons (C8.pe_c (c_tell T) hr (by decide) (by rfl) (pa_cons (pv 0) (pa_cons (pv 4) (pa_cons (pe_cmpR op_lt (pe_callB call_lenT (by rfl) T.n_len (by decide +kernel) (pa_cons (pv 4) pa_nil)) (pe_dget (hu1 hr) (pv 0) pe_str (fun _ _ => rfl)) (nomark _)) pa_nil)))) pa_nil)))
    (pss_one (ps_set (i := 3) sc_cut.nd rfl (Or.inl rfl) (pe_slice sl_tx (pv 3) (po_some (pe_callB call_lenT (by rfl) T.n_len (by decide +kernel) (pa_cons (pe_ix (ix_listK (K := K) rfl) (pv 2) (pe_un un_neg pe_int) (fun _ _ => rfl)) pa_nil))) po_none))))))
  (pss_one (ps_ret (pv 2))))), ?_⟩
    refine ⟨by show 0 ≤ sizeLine; omega, fun f hf => ⟨_, rfl, _, _, rfl, ?_⟩⟩
    refine while_by (fun σ H' => ∃ (fs : List Tx0) (rest : Tx0) (x : Option V), σ = [some (.ref q), some (tv t), some (.ref f), some (tv rest), x] ∧ fs ++ cutM pl rest = cutM pl t ∧ Ov bk rest ∧ fs.length + rest.length ≤ t.length ∧ Kp [] H H' ∧ H' f = some (.lst (fs.map tv)))
      (fun σ _ => slen σ 3) ⟨[], t, none, rfl, rfl, ho, by simp, (kp_refl H).up (.inl hf), upd_same⟩ ?_ ?_
    · rintro σ H1 ⟨fs, rest, x, rfl, hc, hor, hl, hk, hf1⟩
      refine ⟨_, rfl, rfl, _, rfl, ?_⟩
      refine ite2 (fun hb => ?_) (fun hb => ?_)
      · have hne : rest ≠ [] := by
          rintro rfl
          exact absurd hb (by decide)
        have hp1 := hp.kp0 hk
        have hpos : 0 < rest.length := List.length_pos_iff.mpr hne
        refine ⟨_, rfl, _, rfl, _, _, rfl, hp1.g_span, _, rfl, _, rfl, by omega, .inl ⟨rfl, _, rfl, ?_⟩⟩
        refine ⟨_, rfl, .inl ⟨rfl, _, SqL.of hf1⟩, _, rfl, _, rfl, _, rfl, _, rfl, ?_, _, rfl, _, _, rfl, hp1.g_span, _, _, rfl, rfl, ?_⟩
        · rw [List.length_take]
          omega
        refine ⟨q, o, r, l, bk, pl, rest.take pl.span, _, rfl, g, gp, hp1, ov_take hor _, take_ne hs1 hne, by rw [List.length_take]; omega, fun H2 hk2 => ?_⟩
        have hf2 := hk2 _ _ hf1 (by simp)
        have eb : decide (((rest.take pl.span).length : Int) < (pl.span : Int)) = decide ((rest.take pl.span).length < pl.span) := by
          rw [decide_eq_decide]
          omega
        rw [eb]
        have ec := cutM_cons g gp hor hne rfl
        have ln := tell_len g gp (ov_take hor pl.span) (take_ne hs1 hne) (decide ((rest.take pl.span).length < pl.span))
        generalize tellM pl (rest.take pl.span) (decide ((rest.take pl.span).length < pl.span)) = p at ec ln
        have ln2 := ln.2
        rw [List.length_take] at ln2
        refine ⟨f, _, _, rfl, rfl, hf2, ?_, ?_⟩
        · rw [List.length_map]
          omega
        refine ⟨_, rfl, _, rfl, _, rfl, _, _, _, tv p, rfl, rfl, SqL.of upd_same, atI_end _ _, _, rfl, by omega, _, rfl, _, rfl, by omega, .inr (.inl ⟨rfl, _, rfl, ?_⟩)⟩
        refine ⟨⟨fs ++ [p], rest.drop p.length, _, rfl, ?_, ov_drop hor _, ?_, ?_, ?_⟩, ?_⟩
        · rw [← hc, ec, List.append_assoc]
          rfl
        · rw [List.length_append, List.length_singleton, List.length_drop]
          omega
        · exact (hk.trans hk2).up (.inl hf)
        · rw [upd_same, List.map_append]
          rfl
        · show (SX.S (rest.drop p.length)).length < (SX.S rest).length
          rw [SX.S_len, SX.S_len, List.length_drop]
          omega
      · have e : rest = [] := by
          have : (!decide (tv rest = V.str "")) = false := by simpa using hb
          have h5 : tv rest = V.str "" := by simpa using this
          exact SX.S_inj (V.str.inj h5)
        subst e
        rw [cutM_nil, List.append_nil] at hc
        rw [hc] at hf1
        exact ⟨_, rfl, k f H1 hf hk hf1⟩
    · intro σ H Q Q' hQ h
      obtain ⟨v, e1, e2, b, eb, q⟩ := h
      exact ⟨v, e1, e2, b, eb, hQ _ _ q⟩
end
end K75
-- part D9
set_option Elab.async false
set_option linter.all false
set_option maxRecDepth 100000
set_option maxHeartbeats 4000000
namespace K75
open PySem PySem.Spec PyProof.Rows L2
section
variable {P : Program} {w : World} {K : PySem.W.Frag} {mg : Str → Option Value} {base : Heap} {CB CC CF : Addr}
/-! ### the pieces of the whole windows -/
def sp_run : Sp := fun vs H Q _ => ∃ (q o r l : Addr) (bk : Bk) (pl : Pl) (t : Tx0), vs = [.ref q, tv t] ∧ GoodBook bk ∧ GoodPl bk pl ∧ PlH H q o r l pl ∧ Ov bk t ∧ t.length ≤ 10000 ∧
  ∀ (y f : Addr) (H' : Hp), H y = none → H f = none → Kp [] H H' → H' y = some (.lst [.ref f, tv (runM pl t).2]) → H' f = some (.lst ((runM pl t).1.map tv)) → Q (.ref y) H'
theorem c_run (T : Tx K mg CB CC CF) : C8.Cal P w K mg base 2 "_law_run" sp_run [] := by
  refine cal_of T.d_run sc_run (fun _ _ _ _ _ _ us hl => match us, hl with | [_, _], _ => rfl) (fun vs H Q E h => ?_) (fun cdv A outer f s H vs Q E hr h => ?_)
  · obtain ⟨q, o, r, l, bk, pl, t, rfl, _⟩ := h
    rfl
  · obtain ⟨q, o, r, l, bk, pl, t, rfl, g, gp, hp, ho, htl, k⟩ := h
    have h3 : sizeLine = 16777216 := sizeLine_eq
    have hs1 := gp.s1
    refine ⟨_, (pss_cons (ps_par (i := 2) (j := 3) (by rfl) sc_run.nd rfl rfl (by decide) rfl rfl (pa_cons (pe_lst pa_nil) (pa_cons (pv 1) pa_nil)) (by rfl))
  (pss_cons (ps_while PassesOwn.never (pt_cmpR op_ge (pe_callB call_lenT (by rfl) T.n_len (by decide +kernel) (pa_cons (pv 3) pa_nil)) (pe_dget (hu1 hr) (pv 0) pe_str (fun _ _ => rfl)) (nomark _))
    (pss_cons (ps_expr (pe_bm PySem.F.plainAttrs_list PySem.F.slot_list_append PySem.F.type_list_append mt_append (pv 2) (pa_cons (C8.pe_c (c_tell T) hr (by decide) (by rfl) (pa_cons (pv 0) (pa_cons (pe_slice sl_tx (pv 3) po_none (po_some (pe_dget (hu1 hr) (pv 0) pe_str (fun _ _ => rfl)))) (pa_cons pe_bl pa_nil)))) pa_nil)))
    (pss_one (ps_set (i := 3) sc_run.nd rfl (Or.inl rfl) (pe_slice sl_tx (pv 3) (po_some (pe_callB call_lenT (by rfl) T.n_len (by decide +kernel) (pa_cons (pe_ix (ix_listK (K := K) rfl) (pv 2) (pe_un un_neg pe_int) (fun _ _ => rfl)) pa_nil))) po_none)))))
  (pss_one (ps_ret (pe_lst (pa_cons (pv 2) (pa_cons (pv 3) pa_nil))))))), ?_⟩
    refine ⟨by show 0 ≤ sizeLine; omega, fun f hf => ⟨_, rfl, _, _, rfl, ?_⟩⟩
    refine while_by (fun σ H' => ∃ (fs : List Tx0) (rest : Tx0), σ = [some (.ref q), some (tv t), some (.ref f), some (tv rest)] ∧ runM pl t = (fs ++ (runM pl rest).1, (runM pl rest).2) ∧ Ov bk rest ∧ fs.length + rest.length ≤ t.length ∧ Kp [] H H' ∧ H' f = some (.lst (fs.map tv)))
      (fun σ _ => slen σ 3) ⟨[], t, rfl, rfl, ho, by simp, (kp_refl H).up (.inl hf), upd_same⟩ ?_ ?_
    · rintro σ H1 ⟨fs, rest, rfl, hc, hor, hl, hk, hf1⟩
      have hp1 := hp.kp0 hk
      refine ⟨_, rfl, _, rfl, by omega, _, rfl, _, _, rfl, hp1.g_span, _, _, rfl, rfl, _, rfl, ?_⟩
      refine ite2 (fun hb => ?_) (fun hb => ?_)
      · have hsp : pl.span ≤ rest.length := by
          have := of_decide_eq_true hb
          omega
        have hne : rest ≠ [] := by
          rintro rfl
          simp at hsp
          omega
        refine ⟨_, rfl, .inl ⟨rfl, _, SqL.of hf1⟩, _, rfl, _, rfl, _, rfl, _, _, rfl, hp1.g_span, _, rfl, _, rfl, by omega, .inl ⟨rfl, _, rfl, ?_⟩⟩
        refine ⟨q, o, r, l, bk, pl, rest.take pl.span, _, rfl, g, gp, hp1, ov_take hor _, take_ne hs1 hne, by rw [List.length_take]; omega, fun H2 hk2 => ?_⟩
        have hf2 := hk2 _ _ hf1 (by simp)
        have ec := runM_cons g gp hor hsp rfl
        have ln := tell_len g gp (ov_take hor pl.span) (take_ne hs1 hne) false
        generalize tellM pl (rest.take pl.span) false = p at ec ln
        have ln2 := ln.2
        rw [List.length_take] at ln2
        refine ⟨f, _, _, rfl, rfl, hf2, ?_, ?_⟩
        · rw [List.length_map]
          omega
        refine ⟨_, rfl, _, rfl, _, rfl, _, _, _, tv p, rfl, rfl, SqL.of upd_same, atI_end _ _, _, rfl, by omega, _, rfl, _, rfl, by omega, .inr (.inl ⟨rfl, _, rfl, ?_⟩)⟩
        refine ⟨⟨fs ++ [p], rest.drop p.length, rfl, ?_, ov_drop hor _, ?_, ?_, ?_⟩, ?_⟩
        · rw [hc, ec, List.append_assoc]
          rfl
        · rw [List.length_append, List.length_singleton, List.length_drop]
          omega
        · exact (hk.trans hk2).up (.inl hf)
        · rw [upd_same, List.map_append]
          rfl
        · show (SX.S (rest.drop p.length)).length < (SX.S rest).length
          rw [SX.S_len, SX.S_len, List.length_drop]
          omega
      · have hsp : rest.length < pl.span := by
          have : ¬ ((pl.span : Int) ≤ (rest.length : Int)) := fun z => hb (decide_eq_true z)
          omega
        rw [runM_stop hsp, List.append_nil] at hc
        refine ⟨_, rfl, _, rfl, by show 2 ≤ sizeLine; omega, fun y hy => ?_⟩
        have hy0 : H y = none := hk.free hy (by simp)
        refine k y f _ hy0 hf (hk.up (.inl hy0)) ?_ ?_
        · rw [upd_same, hc]
        · rw [upd_ne (ne_of_none hf1 hy), hf1, hc]
    · intro σ H Q Q' hQ h
      obtain ⟨v, e1, t, e2, e3, e4, z1, z2, z3, z4, z5, z6, z7, b, eb, z8, z9, q⟩ := h
      exact ⟨v, e1, t, e2, e3, e4, z1, z2, z3, z4, z5, z6, z7, b, eb, z8, z9, hQ _ _ q⟩
/-! ### the parts of a text -/
def sp_parts : Sp := fun vs H Q _ => ∃ (r : Addr) (t : Tx0), vs = [.ref r, tv t] ∧ Reel H r ∧ t.length ≤ 10000 ∧
  ∀ (f : Addr) (ps : List Tx0) (H' : Hp), H f = none → Kp [r] H H' → Reel H' r → H' f = some (.lst (ps.map tv)) → ps.flatten = t → ps.length ≤ 13 → Q (.ref f) H'
theorem c_parts (T : Tx K mg CB CC CF) : C8.Cal P w K mg base 3 "_law_parts" sp_parts [] := by
  refine cal_of T.d_parts sc_parts (fun _ _ _ _ _ _ us hl => match us, hl with | [_, _], _ => rfl) (fun vs H Q E h => ?_) (fun cdv A outer f s H vs Q E hr h => ?_)
  · obtain ⟨r, t, rfl, _⟩ := h
    rfl
  · obtain ⟨r, t, rfl, hR, htl, k⟩ := h
    have h3 : sizeLine = 16777216 := sizeLine_eq
    refine ⟨_, (pss_cons (ps_par (i := 2) (j := 3) (by rfl) sc_parts.nd rfl rfl (by decide) rfl rfl (pa_cons (pe_lst pa_nil) (pa_cons (pv 1) pa_nil)) (by rfl))
  (pss_cons (ps_for PassesOwn.never rfl (pi_range1 (by rfl) T.n_range (pa_cons pe_int pa_nil)) (pg_name (i := 4) sc_parts.nd rfl (Or.inl rfl))
    (pss_cons (ps_set (i := 5) sc_parts.nd rfl (Or.inl rfl) (C8.pe_c (c_pick T) hr (by decide) (by rfl) (pa_cons (pv 0) (pa_cons (pe_lst (pa_cons pe_int (pa_cons pe_int (pa_cons pe_int (pa_cons pe_int (pa_cons pe_int (pa_cons pe_int (pa_cons pe_int pa_nil)))))))) pa_nil))))
    (pss_cons (ps_expr (pe_bm PySem.F.plainAttrs_list PySem.F.slot_list_append PySem.F.type_list_append mt_append (pv 2) (pa_cons (pe_slice sl_tx (pv 3) po_none (po_some (pv 5))) pa_nil)))
    (pss_one (ps_set (i := 3) sc_parts.nd rfl (Or.inl rfl) (pe_slice sl_tx (pv 3) (po_some (pv 5)) po_none))))))
  (pss_one (ps_ret (pe_op op_cat (pv 2) (pe_lst (pa_cons (pv 3) pa_nil))))))), ?_⟩
    refine ⟨by show 0 ≤ sizeLine; omega, fun f hf => ⟨_, rfl, _, _, rfl, ?_⟩⟩
    have nrf : r ≠ f := hR.ne hf
    refine ⟨12, by rfl, by omega, by omega, ?_⟩
    refine for_range (n := 12) (fun i σ H' => ∃ (fs : List Tx0) (rest : Tx0) (x y : Option V), σ = [some (.ref r), some (tv t), some (.ref f), some (tv rest), x, y] ∧ fs.flatten ++ rest = t ∧ fs.length = i ∧ Kp [r] H H' ∧ Reel H' r ∧ H' f = some (.lst (fs.map tv)))
      ⟨[], t, none, none, rfl, rfl, rfl, (kp_refl H).up (.inl hf), reel_upd hR nrf, upd_same⟩ ?_ ?_
    · rintro i σ H1 hi ⟨fs, rest, x, y, rfl, hc, hfl, hk, hR1, hf1⟩
      refine ⟨_, rfl, by show 7 ≤ sizeLine; omega, fun p np => ?_⟩
      have nrp : r ≠ p := hR1.ne np
      have nfp : f ≠ p := ne_of_none hf1 np
      have p0 : H p = none := hk.free np (by simpa using nrp.symm)
      refine ⟨r, p, _, rfl, reel_upd hR1 nrp, SqL.of upd_same, nrp.symm, by simp, by show 7 ≤ 1000; decide, fun x a b c hx => ?_⟩
      obtain ⟨n, rfl⟩ : ∃ n : Nat, x = .int n := by
        simp only [List.mem_cons, List.not_mem_nil, or_false] at hx
        rcases hx with h | h | h | h | h | h | h <;> subst h
        · exact ⟨1, rfl⟩
        · exact ⟨0, rfl⟩
        · exact ⟨1, rfl⟩
        · exact ⟨2, rfl⟩
        · exact ⟨3, rfl⟩
        · exact ⟨5, rfl⟩
        · exact ⟨9, rfl⟩
      have hrl : rest.length ≤ sizeLine := by
        have := congrArg List.length hc
        rw [List.length_append] at this
        omega
      have hf2 : upd (upd H1 p (.lst [.int 1, .int 0, .int 1, .int 2, .int 3, .int 5, .int 9])) r (.lst [.int a, .int b, .int c]) f = some (.lst (fs.map tv)) := by
        rw [upd_ne nrf.symm, upd_ne nfp]
        exact hf1
      refine ⟨_, rfl, .inl ⟨rfl, _, SqL.of hf2⟩, _, rfl, _, rfl, _, rfl, _, rfl, hrl, .inl ⟨rfl, n, rfl, ?_⟩⟩
      refine ⟨f, _, _, rfl, rfl, hf2, ?_, ?_⟩
      · rw [List.length_map]
        omega
      refine ⟨_, rfl, _, rfl, _, rfl, _, rfl, hrl, .inr (.inl ⟨rfl, n, rfl, ?_⟩)⟩
      refine ⟨fs ++ [rest.take n], rest.drop n, _, _, rfl, ?_, ?_, ?_, ?_, ?_⟩
      · rw [List.flatten_append, List.append_assoc, ← hc]
        congr 1
        show (rest.take n ++ []) ++ rest.drop n = rest
        rw [List.append_nil, List.take_append_drop]
      · rw [List.length_append, hfl]
        rfl
      · exact ((hk.up (.inl p0)).up (.inr (by simp))).up (.inl hf)
      · exact reel_upd (reel_same a b c) nrf
      · rw [upd_same, List.map_append]
        rfl
    · rintro σ H1 ⟨fs, rest, x, y, rfl, hc, hfl, hk, hR1, hf1⟩
      refine ⟨_, rfl, _, rfl, by show 1 ≤ sizeLine; omega, fun p np => ?_⟩
      have nrp : r ≠ p := hR1.ne np
      have nfp : f ≠ p := ne_of_none hf1 np
      have p0 : H p = none := hk.free np (by simpa using nrp.symm)
      refine ⟨_, _, _, _, rfl, rfl, by rw [upd_ne nfp]; exact hf1, upd_same, ?_, fun z nz => ?_⟩
      · rw [List.length_map]
        show fs.length + 1 ≤ sizeLine
        omega
      · have kp1 : Kp [r] H (upd H1 p (.lst [tv rest])) := hk.up (.inl p0)
        have nrz : r ≠ z := (reel_upd (o := .lst [tv rest]) hR1 nrp).ne nz
        have z0 : H z = none := kp1.free nz (by simpa using nrz.symm)
        refine k z (fs ++ [rest]) _ z0 (kp1.up (.inl z0)) (reel_upd (reel_upd hR1 nrp) nrz) ?_ ?_ ?_
        · rw [upd_same, List.map_append]
          rfl
        · rw [List.flatten_append, ← hc]
          show fs.flatten ++ (rest ++ []) = _
          rw [List.append_nil]
        · rw [List.length_append, hfl, List.length_singleton]
          exact Nat.le_refl 13
end
end K75
-- part D10
set_option Elab.async false
set_option linter.all false
set_option maxRecDepth 100000
set_option maxHeartbeats 4000000
namespace K75
open PySem PySem.Spec PyProof.Rows L2
/-- tables on the way -/
structure GT (bk : Bk) (n k : Nat) (m : Tb) : Prop where
  nd : (m.map (·.1)).Nodup
  le : m.length ≤ k
  ok : ∀ p ∈ m, Ov bk p.1 ∧ 1 ≤ p.1.length ∧ p.1.length ≤ n ∧ p.2 ∈ pcs bk ∧ beg p.2 p.1 = true
theorem GT.put {bk : Bk} {n k : Nat} {m : Tb} (g : GT bk n k m) {t p : Tx0} (h1 : Ov bk t) (h2 : 1 ≤ t.length) (h3 : t.length ≤ n) (h4 : p ∈ pcs bk) (h5 : beg p t = true) : GT bk n (k + 1) (putA m t p) :=
  ⟨nd_putA g.nd, by
    have := (len_putA m t p).2
    have := g.le
    omega, fun q hq => by
    rcases mem_putA hq with e | h
    · subst e
      exact ⟨h1, h2, h3, h4, h5⟩
    · exact g.ok q h⟩
theorem GT.up {bk : Bk} {n k j : Nat} {m : Tb} (g : GT bk n k m) (h : k ≤ j) : GT bk n j m := ⟨g.nd, by have := g.le; omega, g.ok⟩
theorem GT.good {bk : Bk} {n k : Nat} {m : Tb} (g : GT bk n k m) (h : k ≤ 3) : GoodTb bk n m :=
  ⟨g.nd, by have := g.le; omega, fun p hp => (g.ok p hp).1, fun p hp => ⟨(g.ok p hp).2.1, (g.ok p hp).2.2.1⟩, fun p hp => (g.ok p hp).2.2.2.1, fun p hp => (g.ok p hp).2.2.2.2⟩
/-- heaps on the way -/
structure HB (H0 : Hp) (r d a b : Addr) (bk : Bk) (H : Hp) (rows last : Tb) : Prop where
  kp : Kp [r] H0 H
  rl : Reel H r
  hd : H d = some (.dK (dB bk))
  ha : H a = some (.dK (dV tv rows))
  hb : H b = some (.dK (dV tv last))
  a0 : H0 a = none
  b0 : H0 b = none
  ra : r ≠ a
  rb : r ≠ b
  rd : r ≠ d
  da : d ≠ a
  db : d ≠ b
  ab : a ≠ b
section
variable {H0 H : Hp} {r d a b : Addr} {bk : Bk} {rows last : Tb}
theorem HB.kp0 (h : HB H0 r d a b bk H rows last) {H' : Hp} (k : Kp [r] H H') (hr : Reel H' r) : HB H0 r d a b bk H' rows last :=
  ⟨h.kp.trans k, hr, k _ _ h.hd (by simpa using h.rd.symm), k _ _ h.ha (by simpa using h.ra.symm), k _ _ h.hb (by simpa using h.rb.symm), h.a0, h.b0, h.ra, h.rb, h.rd, h.da, h.db, h.ab⟩
theorem Reel.kp {H H' : Hp} {r : Addr} (h : Reel H r) (k : Kp [] H H') : Reel H' r := by
  obtain ⟨x, y, z, e⟩ := h
  exact ⟨x, y, z, k _ _ e (by simp)⟩
theorem Kp.any {H H' : Hp} (k : Kp [] H H') (D : List Addr) : Kp D H H' := fun x o h _ => k x o h (by simp)
theorem HB.kpe (h : HB H0 r d a b bk H rows last) {H' : Hp} (k : Kp [] H H') : HB H0 r d a b bk H' rows last := h.kp0 (k.any [r]) (h.rl.kp k)
theorem HB.reel (h : HB H0 r d a b bk H rows last) (x y z : Int) : HB H0 r d a b bk (upd H r (.lst [.int x, .int y, .int z])) rows last :=
  h.kp0 ((kp_refl H).up (.inr (by simp))) (reel_same x y z)
theorem HB.putA (h : HB H0 r d a b bk H rows last) (m : Tb) : HB H0 r d a b bk (upd H a (.dK (dV tv m))) m last :=
  ⟨h.kp.up (.inl h.a0), reel_upd h.rl h.ra, by rw [upd_ne h.da]; exact h.hd, upd_same, by rw [upd_ne h.ab.symm]; exact h.hb, h.a0, h.b0, h.ra, h.rb, h.rd, h.da, h.db, h.ab⟩
theorem HB.putB (h : HB H0 r d a b bk H rows last) (m : Tb) : HB H0 r d a b bk (upd H b (.dK (dV tv m))) rows m :=
  ⟨h.kp.up (.inl h.b0), reel_upd h.rl h.rb, by rw [upd_ne h.db]; exact h.hd, by rw [upd_ne h.ab]; exact h.ha, upd_same, h.a0, h.b0, h.ra, h.rb, h.rd, h.da, h.db, h.ab⟩
theorem dput_A {β : Type} {f : β → V} {H : Hp} {d : Addr} {m : List (Tx0 × β)} (h : H d = some (.dK (dV f m))) (hz : m.length ≤ 1000) (k : Tx0) (v : β) : DPut H d (tv k) (f v) (upd H d (.dK (dV f (K75.putA m k v)))) := by
  have h3 : sizeLine = 16777216 := sizeLine_eq
  have := DPut.k (k := kx k) (v := f v) h (by rw [dV_length]; omega)
  rw [putK_dV] at this
  exact this
end
section
variable {P : Program} {w : World} {K : PySem.W.Frag} {mg : Str → Option Value} {base : Heap} {CB CC CF : Addr}
def sp_hasty : Sp := fun vs H Q _ => ∃ (r d hh : Addr) (bk : Bk) (span : Nat), vs = [.ref r, .ref d, .int span, .ref hh] ∧ Reel H r ∧ GoodBook bk ∧ H d = some (.dK (dB bk)) ∧ H hh = some (.dK []) ∧ 1 ≤ span ∧ span ≤ 7 ∧
  ∀ (q o rr l : Addr) (pl : Pl) (H' : Hp), GoodPl bk pl → pl.span = span → PlH H' q o rr l pl → Kp [r] H H' → Reel H' r → Q (.ref q) H'
theorem c_hasty (T : Tx K mg CB CC CF) : C8.Cal P w K mg base 4 "_law_hasty" sp_hasty [] := by
  refine cal_of T.d_hasty sc_hasty (fun _ _ _ _ _ _ us hl => match us, hl with | [_, _, _, _], _ => rfl) (fun vs H Q E h => ?_) (fun cdv A outer f s H vs Q E hr h => ?_)
  · obtain ⟨r, d, hh, bk, span, rfl, _⟩ := h
    rfl
  · obtain ⟨r, d, hh, bk, span, rfl, hR, g, hd, hh0, hs1, hs7, k⟩ := h
    have h3 : sizeLine = 16777216 := sizeLine_eq
    refine ⟨_, (pss_cons (ps_setLc (i := 5) (own := [("text", 4)]) (g := gName 4) rfl sc_hasty.nd rfl rfl (sw_true rfl rfl rfl (by decide +kernel)) (pi_list (pe_callB (call_sortedD rfl) (by rfl) T.n_sorted (by decide +kernel) (pa_cons (pv 3) pa_nil))) (blkOk_by (own := [("text", 4)]) (N := N_hasty) (sc := (defScope s_hasty)) (by decide +kernel)) (fun _ _ _ _ _ => (pg_name (i := 4) sc_hasty.nd rfl (Or.inl rfl))) (fun _ _ _ _ _ => (pts_one (pt_cmpR op_le (pe_callB call_lenT (by rfl) T.n_len (by decide +kernel) (pa_cons (pv 4) pa_nil)) (pv 2) (nomark _)))) (fun _ _ _ _ _ => (pv 4)))
  (pss_cons (ps_par (i := 6) (j := 7) (by rfl) sc_hasty.nd rfl rfl (by decide) rfl rfl (pa_cons (pe_callTy (call_dictP rfl) (by rfl) T.n_dict (by decide +kernel) (pa_cons (pe_lc (own := [("text", 4)]) (g := gName 4) rfl sc_hasty.nd (pi_list (pv 5)) (blkOk_by (own := [("text", 4)]) (N := N_hasty) (sc := (defScope s_hasty)) (by decide +kernel)) (fun _ _ _ _ _ => (pg_name (i := 4) sc_hasty.nd rfl (Or.inl rfl))) (fun _ _ _ _ _ => (pts_one (pt_cmpR op_gt (C8.pe_c (c_spin T) hr (by decide) (by rfl) (pa_cons (pv 0) (pa_cons pe_int pa_nil))) pe_int (nomark _)))) (fun _ _ _ _ _ => (pe_tup (pa_cons (pv 4) (pa_cons (pe_dget (hu1 hr) (pv 3) (pv 4) (fun _ _ => rfl)) pa_nil))))) pa_nil)) (pa_cons pe_dnewK pa_nil)) (by rfl))
  (pss_cons (ps_for PassesOwn.never rfl (pi_range1 (by rfl) T.n_range (pa_cons (C8.pe_c (c_spin T) hr (by decide) (by rfl) (pa_cons (pv 0) (pa_cons pe_int pa_nil))) pa_nil)) (pg_name (i := 8) sc_hasty.nd rfl (Or.inl rfl))
    (pss_cons (ps_set (i := 4) sc_hasty.nd rfl (Or.inl rfl) (C8.pe_c (c_drawn_text T) hr (by decide) (by rfl) (pa_cons (pv 0) (pa_cons (C8.pe_c (c_signs_of T) hr (by decide) (by rfl) (pa_cons (pv 1) pa_nil)) (pa_cons (pe_op op_add pe_int (C8.pe_c (c_spin T) hr (by decide) (by rfl) (pa_cons (pv 0) (pa_cons (pv 2) pa_nil)))) pa_nil)))))
    (pss_cons (ps_dput (hu1 hr) (pv 6) (pv 4) (C8.pe_c (c_pick T) hr (by decide) (by rfl) (pa_cons (pv 0) (pa_cons (C8.pe_c (c_starting T) hr (by decide) (by rfl) (pa_cons (pv 1) (pa_cons (pv 4) pa_nil))) pa_nil))) rfl)
    (pss_one (ps_if (pt_cmpR op_lt (pe_callB call_lenT (by rfl) T.n_len (by decide +kernel) (pa_cons (pv 4) pa_nil)) (pv 2) (nomark _))
      (pss_one (ps_dput (hu1 hr) (pv 7) (pv 4) (C8.pe_c (c_pick T) hr (by decide) (by rfl) (pa_cons (pv 0) (pa_cons (C8.pe_c (c_starting T) hr (by decide) (by rfl) (pa_cons (pv 1) (pa_cons (pv 4) pa_nil))) pa_nil))) rfl))
      pss_nil)))))
  (pss_one (ps_ret (pe_disp (pps_cons pe_str (C8.pe_c (c_mixed T) hr (by decide) (by rfl) (pa_cons (pv 0) (pa_cons (pe_callB (call_sortedD rfl) (by rfl) T.n_sorted (by decide +kernel) (pa_cons (pv 1) pa_nil)) pa_nil))) (pps_cons pe_str (pv 2) (pps_cons pe_str (pv 6) (pps_cons pe_str (pv 7) pps_nil)))) (by rfl) (by rfl) (fun z => by cases z) (by decide))))))), ?_⟩
    refine ⟨_, rfl, hh, [], [], rfl, .inl hh0, rfl, by decide, fun ys p hys hso hp => ?_⟩
    have eys : ys = [] := List.length_eq_zero_iff.mp hys.length_eq
    subst eys
    have kp1 : Kp [] H (upd H p (.lst [])) := (kp_refl H).up (.inl hp)
    generalize hH1 : upd H p (.lst []) = H1 at kp1
    have hp1 : H1 p = some (.lst []) := by rw [← hH1, upd_same]
    rw [show upd H p (.lst (([] : List Str).map V.str)) = H1 from hH1]
    refine ⟨p, rfl, ⟨_, SqL.of hp1⟩, fun D hD => ?_⟩
    have kp2 : Kp [] H (upd H1 D (.lst [])) := kp1.up (.inl (kp1.free hD (by simp)))
    refine comp_list (α := Tx0) [] tv (fun _ => true) tv (fun acc => sqL_upd (SqL.of hp1) (ne_of_none hp1 hD)) (by show 0 < sizeLine; omega) (fun _ h => by cases h) ?_
    have hD1 : upd H1 D (.lst []) D = some (.lst []) := upd_same
    rw [show (List.map tv (List.filter (fun _ => true) [])) = ([] : List V) from rfl]
    generalize upd H1 D (.lst []) = H2 at kp2 hD1
    refine ⟨_, rfl, D, rfl, ⟨_, SqL.of hD1⟩, fun D2 hD2 => ?_⟩
    have kp3 : Kp [] H (upd H2 D2 (.lst [])) := kp2.up (.inl (kp2.free hD2 (by simp)))
    refine comp_list (α := Tx0) [] tv (fun _ => true) tv (fun acc => sqL_upd (SqL.of hD1) (ne_of_none hD1 hD2)) (by show 0 < sizeLine; omega) (fun _ h => by cases h) ?_
    have hD3 : upd H2 D2 (.lst []) D2 = some (.lst []) := upd_same
    rw [show (List.map tv (List.filter (fun _ => true) [])) = ([] : List V) from rfl]
    generalize upd H2 D2 (.lst []) = H3 at kp3 hD3
    refine ⟨D2, [], [], rfl, SqL.of hD3, .nil, fun a ha => fun b hb => ⟨_, _, rfl, ?_⟩⟩
    have a0 : H a = none := kp3.free ha (by simp)
    have kp4 : Kp [] H (upd H3 a (.dK [])) := kp3.up (.inl a0)
    have b0 : H b = none := kp4.free hb (by simp)
    have nab : a ≠ b := by
      rintro rfl
      rw [show mergeK [] [] = ([] : List (Key × V)) from rfl, upd_same] at hb
      cases hb
    have B1 : HB H r d a b bk (upd (upd H3 a (.dK [])) b (.dK [])) [] [] := by
      refine ⟨(kp4.up (.inl b0)).any [r], hR.kp (kp4.up (.inl b0)), (kp4.up (.inl b0)) _ _ hd (by simp), by rw [upd_ne nab, upd_same]; rfl, upd_same, a0, b0, hR.ne a0, hR.ne b0, ?_, ne_of_none hd a0, ne_of_none hd b0, nab⟩
      rintro rfl
      obtain ⟨x, y, z, e⟩ := hR
      rw [hd] at e
      cases e
    rw [show mergeK [] [] = ([] : List (Key × V)) from rfl]
    generalize upd (upd H3 a (.dK [])) b (.dK []) = H4 at B1
    refine ⟨_, rfl, r, 4, rfl, B1.rl, by decide, by decide, fun v x y z h0 h1 => ?_⟩
    obtain ⟨m, rfl⟩ : ∃ m : Nat, v = m := ⟨v.toNat, by omega⟩
    refine ⟨m, rfl, by omega, by omega, ?_⟩
    have B2 := B1.reel x y z
    generalize upd H4 r (.lst [.int x, .int y, .int z]) = H5 at B2
    have hi4 : m ≤ 3 := by omega
    refine for_range (n := m) (fun i σ H' => ∃ (rows last : Tb) (x4 x8 : Option V), σ = [some (.ref r), some (.ref d), some (.int span), some (.ref hh), x4, some (.ref D), some (.ref a), some (.ref b), x8] ∧ HB H r d a b bk H' rows last ∧ GT bk span i rows ∧ GT bk (span - 1) i last)
      ⟨[], [], _, none, rfl, B2, ⟨.nil, Nat.le_refl _, fun _ h => by cases h⟩, ⟨.nil, Nat.le_refl _, fun _ h => by cases h⟩⟩ ?_ ?_
    · rintro i σ H6 hi ⟨rows, last, x4, x8, rfl, B, G1, G2⟩
      refine ⟨_, rfl, _, rfl, d, bk, rfl, g, B.hd, fun q cs H7 q0 hk7 hq7 hcs hne hcl => ?_⟩
      have B7 := B.kpe hk7
      refine ⟨_, rfl, _, rfl, r, span, rfl, B7.rl, by omega, by omega, fun v x y z h0 h1 => ?_⟩
      obtain ⟨n, rfl⟩ : ∃ n : Nat, v = n := ⟨v.toNat, by omega⟩
      have B8 := B7.reel x y z
      have nqr : q ≠ r := fun e => B.rl.ne q0 e.symm
      have hq8 : upd H7 r (.lst [.int x, .int y, .int z]) q = some (.lst (cs.map sg)) := by rw [upd_ne nqr]; exact hq7
      generalize upd H7 r (.lst [.int x, .int y, .int z]) = H8 at B8 hq8
      refine ⟨_, _, rfl, rfl, r, q, cs, 1 + n, by simp, B8.rl, hq8, nqr, hne, by omega, by omega, fun t H9 htl htc hk9 hR9 => ?_⟩
      have B9 := B8.kp0 hk9 hR9
      have hov : Ov bk t := fun c hc => (hcs c).mp (htc c hc)
      have htne : t ≠ [] := by
        rintro rfl
        simp at htl
        omega
      refine ⟨_, rfl, _, rfl, _, rfl, d, bk, t, rfl, g, B9.hd, hov, htne, fun q2 ps H10 q20 hk10 hq10 hps hpne hpl => ?_⟩
      have B10 := B9.kpe hk10
      refine ⟨r, q2, _, rfl, B10.rl, SqL.of hq10, fun e => B9.rl.ne q20 e.symm, by simpa using hpne, by rw [List.length_map]; omega, fun x a1 b1 c1 hx => ?_⟩
      obtain ⟨p, hp, rfl⟩ := List.mem_map.mp hx
      have B11 := B10.reel a1 b1 c1
      generalize upd H10 r (.lst [.int a1, .int b1, .int c1]) = H11 at B11
      have hl1 := G1.le
      have hl2 := G2.le
      refine ⟨_, rfl, _, rfl, a, _, rfl, dput_A (f := tv) B11.ha (by omega) t p, ?_⟩
      have B12 := B11.putA (K75.putA rows t p)
      have G3 := G1.put hov (by omega) (by omega) (hps p hp).1 (hps p hp).2
      generalize upd H11 a (.dK (dV tv (K75.putA rows t p))) = H12 at B12
      refine ⟨_, rfl, _, rfl, by omega, _, rfl, _, _, rfl, rfl, _, rfl, ite2 (fun hc => ?_) (fun hc => ?_)⟩
      · have hlt : t.length < span := by
          have := of_decide_eq_true hc
          omega
        refine ⟨_, rfl, _, rfl, _, rfl, d, bk, t, rfl, g, B12.hd, hov, htne, fun q2 ps H10 q20 hk10 hq10 hps hpne hpl => ?_⟩
        have B10 := B12.kpe hk10
        refine ⟨r, q2, _, rfl, B10.rl, SqL.of hq10, fun e => B12.rl.ne q20 e.symm, by simpa using hpne, by rw [List.length_map]; omega, fun x a1 b1 c1 hx => ?_⟩
        obtain ⟨p, hp, rfl⟩ := List.mem_map.mp hx
        have B11 := B10.reel a1 b1 c1
        generalize upd H10 r (.lst [.int a1, .int b1, .int c1]) = H11 at B11
        refine ⟨_, rfl, _, rfl, b, _, rfl, dput_A (f := tv) B11.hb (by omega) t p, ?_⟩
        exact ⟨_, _, _, _, rfl, B11.putB _, G3, G2.put hov (by omega) (by omega) (hps p hp).1 (hps p hp).2⟩
      · exact ⟨_, _, _, _, rfl, B12, G3, G2.up (by omega)⟩
    · rintro σ H6 ⟨rows, last, x4, x8, rfl, B, G1, G2⟩
      refine fun q q0 => ⟨_, rfl, ?_⟩
      have hq0 : H q = none := by
        refine B.kp.free q0 ?_
        have := B.rl.ne q0
        simpa using this.symm
      have kq : Kp [] H6 (upd H6 q (.dK [])) := (kp_refl H6).up (.inl q0)
      have B7 := B.kpe kq
      have nrq := B.rl.ne q0
      refine ⟨_, rfl, d, dB bk, bk.map fun p => SX.S p.1, rfl, .inl B7.hd, by unfold dB dV; rw [List.map_map, List.map_map]; rfl, by rw [List.length_map]; have := g.le; omega, fun ys p hys hso hp => ?_⟩
      obtain ⟨l0, rfl, hl0, hsl⟩ := perm_S (l := pcs bk) (by rw [List.map_map]; exact hys) hso
      have B8 := B7.kpe ((kp_refl _).up (o := .lst ((l0.map SX.S).map V.str)) (.inl hp))
      have nrp := B7.rl.ne hp
      refine ⟨r, p, l0.map tv, rfl, B8.rl, SqL.of (by rw [upd_same, List.map_map]; rfl), ?_, ?_, fun o zs H8 o0 hperm hk8 hR8 ho8 => ?_⟩
      · intro x hx
        obtain ⟨t, ht, rfl⟩ := List.mem_map.mp hx
        exact .inl ⟨t, rfl, ov_lt g (pcs_ov g (hl0.mem_iff.mp ht))⟩
      · have := hl0.length_eq
        have h12 := g.le
        rw [List.length_map] at this
        rw [List.length_map]
        omega
      obtain ⟨od, rfl, hod⟩ := perm_map_ex hperm l0 rfl
      have B9 := B8.kp0 hk8 hR8
      have hq9 : H8 q = some (.dK []) := by
        refine hk8 _ _ ?_ (by simpa using nrq.symm)
        have : q ≠ p := by
          rintro rfl
          rw [upd_same] at hp
          cases hp
        rw [upd_ne this, upd_same]
      refine ⟨_, rfl, _, rfl, _, rfl, hq9, [(.inr "order", .ref o), (.inr "span", .int span), (.inr "rows", .ref a), (.inr "last", .ref b)], rfl, by show 4 ≤ 15; decide, ?_⟩
      rw [show mergeK [] [(.inr "order", .ref o), (.inr "span", .int span), (.inr "rows", .ref a), (.inr "last", .ref b)] = [((.inr "order" : Key), V.ref o), (.inr "span", .int span), (.inr "rows", .ref a), (.inr "last", .ref b)] from rfl]
      have noq : o ≠ q := by
        rintro rfl
        rw [ho8] at hq9
        cases hq9
      have hi3 := hi4
      refine k q o a b ⟨od, span, rows, last⟩ _ ⟨hod.trans hl0, hs1, by show span ≤ 2000; omega, G1.good hi3, G2.good hi3⟩ rfl ⟨upd_same, by rw [upd_ne noq]; exact ho8, by rw [upd_ne (ne_of_none B.ha q0)]; exact B9.ha, by rw [upd_ne (ne_of_none B.hb q0)]; exact B9.hb⟩ (B9.kp.up (.inl hq0)) (reel_upd B9.rl nrq)
end
end K75
-- part M2
set_option Elab.async false
set_option linter.all false
set_option maxRecDepth 100000
set_option maxHeartbeats 4000000
namespace K75
open PySem PySem.Spec PyProof.Rows L2
/-! ### cheapest prices -/
def Cand (bk : Bk) (t : Tx0) (fs : List Int) (s : Nat) (y : Int) : Prop := ∃ p ∈ bk, fin p.1 (t.take s) = true ∧ ∃ v, fs[s - p.1.length]? = some v ∧ y = v + p.2
structure DPok (bk : Bk) (t : Tx0) (fs : List Int) : Prop where
  zero : fs[0]? = some 0
  step : ∀ s, 1 ≤ s → s < fs.length → ∃ m, fs[s]? = some m ∧ Cand bk t fs s m ∧ ∀ y, Cand bk t fs s y → m ≤ y
def Cheap (bk : Bk) (t : Tx0) (v : Int) : Prop := ∃ fs, DPok bk t fs ∧ fs.length = t.length + 1 ∧ fs[t.length]? = some v
theorem dp_nil (bk : Bk) (t : Tx0) : DPok bk t [0] := ⟨rfl, fun s h1 h2 => by simp at h2; omega⟩
theorem cand_app {bk : Bk} {t : Tx0} {fs : List Int} {m y : Int} {s : Nat} (hl : ∀ p ∈ bk, 1 ≤ p.1.length) (h0 : 1 ≤ s) (hs : s ≤ fs.length) : Cand bk t (fs ++ [m]) s y ↔ Cand bk t fs s y := by
  have e : ∀ p ∈ bk, (fs ++ [m])[s - p.1.length]? = fs[s - p.1.length]? := fun p hp => by
    have := hl p hp
    exact List.getElem?_append_left (by omega)
  constructor
  · rintro ⟨p, hp, h1, v, h2, h3⟩
    exact ⟨p, hp, h1, v, by rw [← e p hp]; exact h2, h3⟩
  · rintro ⟨p, hp, h1, v, h2, h3⟩
    exact ⟨p, hp, h1, v, by rw [e p hp]; exact h2, h3⟩
theorem dp_snoc {bk : Bk} {t : Tx0} {fs : List Int} {m : Int} (hl : ∀ p ∈ bk, 1 ≤ p.1.length) (h : DPok bk t fs) (hne : 1 ≤ fs.length) (h1 : Cand bk t fs fs.length m) (h2 : ∀ y, Cand bk t fs fs.length y → m ≤ y) : DPok bk t (fs ++ [m]) := by
  refine ⟨by rw [List.getElem?_append_left (by omega)]; exact h.zero, fun s hs1 hs2 => ?_⟩
  rw [List.length_append, List.length_singleton] at hs2
  by_cases e : s = fs.length
  · subst e
    refine ⟨m, by simp, (cand_app hl hs1 (Nat.le_refl _)).mpr h1, fun y hy => h2 y ((cand_app hl hs1 (Nat.le_refl _)).mp hy)⟩
  · obtain ⟨n, a, b, c⟩ := h.step s hs1 (by omega)
    refine ⟨n, by rw [List.getElem?_append_left (by omega)]; exact a, (cand_app hl hs1 (by omega)).mpr b, fun y hy => c y ((cand_app hl hs1 (by omega)).mp hy)⟩
theorem dp_unique {bk bl : Bk} {t : Tx0} {fs gs : List Int} (hl : ∀ p ∈ bk, 1 ≤ p.1.length) (hm : ∀ p, p ∈ bk ↔ p ∈ bl) (h1 : DPok bk t fs) (h2 : DPok bl t gs) : ∀ s, s < fs.length → s < gs.length → fs[s]? = gs[s]? := by
  intro s
  induction s using Nat.strongRecOn with
  | _ s ih =>
    intro hf hg
    by_cases h0 : s = 0
    · subst h0
      rw [h1.zero, h2.zero]
    · have hs : 1 ≤ s := by omega
      have ec : ∀ y, Cand bk t fs s y ↔ Cand bl t gs s y := fun y => by
        constructor
        · rintro ⟨p, hp, a, v, b, c⟩
          have := hl p hp
          exact ⟨p, (hm p).mp hp, a, v, by rw [← ih (s - p.1.length) (by omega) (by omega) (by omega)]; exact b, c⟩
        · rintro ⟨p, hp, a, v, b, c⟩
          have := hl p ((hm p).mpr hp)
          exact ⟨p, (hm p).mpr hp, a, v, by rw [ih (s - p.1.length) (by omega) (by omega) (by omega)]; exact b, c⟩
      obtain ⟨m, a1, a2, a3⟩ := h1.step s hs hf
      obtain ⟨n, b1, b2, b3⟩ := h2.step s hs hg
      have := a3 n ((ec n).mpr b2)
      have := b3 m ((ec m).mp a2)
      rw [a1, b1, show m = n by omega]
theorem cheap_unique {bk bl : Bk} {t : Tx0} {v u : Int} (hl : ∀ p ∈ bk, 1 ≤ p.1.length) (hm : ∀ p, p ∈ bk ↔ p ∈ bl) (h1 : Cheap bk t v) (h2 : Cheap bl t u) : v = u := by
  obtain ⟨fs, a1, a2, a3⟩ := h1
  obtain ⟨gs, b1, b2, b3⟩ := h2
  have := dp_unique hl hm a1 b1 t.length (by omega) (by omega)
  rw [a3, b3] at this
  exact Option.some.inj this
/-- the last sign is a candidate -/
theorem fin_one {t : Tx0} {c s : Nat} (h : t[s]? = some c) : fin [c] (t.take (s + 1)) = true := by
  have hs := (List.getElem?_eq_some_iff.mp h).1
  unfold fin
  rw [decide_eq_true_iff, List.length_take, Nat.min_eq_left (by omega)]
  refine ⟨by show 1 ≤ s + 1; omega, ?_⟩
  show (t.take (s + 1)).drop s = [c]
  rw [List.take_add_one, h, List.drop_append_of_le_length (by rw [List.length_take]; omega), List.drop_eq_nil_of_le (by rw [List.length_take]; omega)]
  rfl
theorem fin_le {b a : Tx0} (h : fin b a = true) : b.length ≤ a.length := (of_decide_eq_true h).1
end K75
-- part D11
set_option Elab.async false
set_option linter.all false
set_option maxRecDepth 100000
set_option maxHeartbeats 4000000
namespace K75
open PySem PySem.Spec PyProof.Rows L2
section
variable {P : Program} {w : World} {K : PySem.W.Frag} {mg : Str → Option Value} {base : Heap} {CB CC CF : Addr}
def sp_prices_along : Sp := fun vs H Q _ => ∃ (d : Addr) (bk : Bk) (t : Tx0), vs = [.ref d, tv t] ∧ GoodBook bk ∧ H d = some (.dK (dB bk)) ∧ Ov bk t ∧ t.length ≤ 10000 ∧
  ∀ (f : Addr) (fs : List Int) (H' : Hp), H f = none → Kp [] H H' → H' f = some (.lst (fs.map V.int)) → DPok bk t fs → fs.length = t.length + 1 → Q (.ref f) H'
theorem c_prices_along (T : Tx K mg CB CC CF) : C8.Cal P w K mg base 1 "_law_prices_along" sp_prices_along [] := by
  refine cal_of T.d_prices_along sc_prices_along (fun _ _ _ _ _ _ us hl => match us, hl with | [_, _], _ => rfl) (fun vs H Q E h => ?_) (fun cdv A outer f s H vs Q E hr h => ?_)
  · obtain ⟨d, bk, t, rfl, _⟩ := h
    rfl
  · obtain ⟨d, bk, t, rfl, g, hd, ho, htl, k⟩ := h
    have h3 : sizeLine = 16777216 := sizeLine_eq
    refine ⟨_, (pss_cons (ps_set (i := 2) sc_prices_along.nd rfl (Or.inr rfl) (pe_lst (pa_cons pe_int pa_nil)))
  (pss_cons (ps_for PassesOwn.never rfl (pi_range2 (by rfl) T.n_range (pa_cons pe_int (pa_cons (pe_op op_add (pe_callB call_lenT (by rfl) T.n_len (by decide +kernel) (pa_cons (pv 1) pa_nil)) pe_int) pa_nil))) (pg_name (i := 3) sc_prices_along.nd rfl (Or.inr rfl))
    (pss_cons (ps_set (i := 4) sc_prices_along.nd rfl (Or.inr rfl) (pe_slice sl_tx (pv 1) po_none (po_some (pv 3))))
    (pss_one (ps_expr (pe_bm PySem.F.plainAttrs_list PySem.F.slot_list_append PySem.F.type_list_append mt_append (pv 2) (pa_cons (pe_callB (cr_min rfl) (by rfl) T.n_min (by decide +kernel) (pa_cons (pe_lock (pe_lc (own := [("piece", 5)]) (g := gName 5) rfl sc_prices_along.nd (pi_keys (pv 0)) (blkOk_by (own := [("piece", 5)]) (N := N_prices_along) (sc := (defScope s_prices_along)) (by decide +kernel)) (fun _ _ _ _ _ => (pg_name (i := 5) sc_prices_along.nd rfl (Or.inl rfl))) (fun _ _ _ _ _ => (pts_one (pt_val (pe_m1 PySem.F.slot_str_endswith PySem.F.type_str_endswith mt_endswith (pv 4) (pv 5))))) (fun _ _ _ _ _ => (pe_op op_add (pe_ix (ix_listK (K := K) rfl) (pv 2) (pe_op op_sub (pv 3) (pe_callB call_lenT (by rfl) T.n_len (by decide +kernel) (pa_cons (pv 5) pa_nil))) (fun _ _ => rfl)) (pe_dget (hu1 hr) (pv 0) (pv 5) (fun _ _ => rfl)))))) pa_nil)) pa_nil))))))
  (pss_one (ps_ret (pv 2))))), ?_⟩
    refine ⟨by show 1 ≤ sizeLine; omega, fun f hf => ⟨_, rfl, _, rfl, by omega, _, _, rfl, rfl, 1, ((t.length : Int) + 1), rfl, ⟨by omega, by omega, by omega, by omega⟩, ?_⟩⟩
    have hdf := ne_of_none hd hf
    rw [show ((t.length : Int) + 1 - 1).toNat = t.length by omega]
    refine for_range (lo := 1) (n := t.length) (fun i σ' H' => ∃ (fs : List Int) (x y : Option V), σ' = [some (.ref d), some (tv t), some (.ref f), x, y, none] ∧ Kp [] H H' ∧ H' f = some (.lst (fs.map V.int)) ∧ DPok bk t fs ∧ fs.length = i + 1)
      ⟨[0], none, none, rfl, (kp_refl H).up (.inl hf), upd_same, dp_nil bk t, rfl⟩ ?_ ?_
    · rintro i σ H1 hi ⟨fs, x, y, rfl, hk, hf1, hdp, hfl⟩
      have hlt : t.length ≤ sizeLine := by omega
      have hd1 := hk _ _ hd (by simp)
      refine ⟨_, rfl, _, rfl, _, rfl, _, rfl, hlt, .inl ⟨rfl, i + 1, by rw [Int.add_comm]; rfl, ?_⟩⟩
      refine ⟨_, rfl, .inl ⟨rfl, _, SqL.of hf1⟩, ?_⟩
      have h12 := g.le
      refine comp_keys bk (fun p => fin p.1 (t.take (i + 1))) (fun p => .int ((fs[i + 1 - p.1.length]?).getD 0 + p.2)) (fun H R h => ⟨_, rfl, h⟩) hd1 (by omega) ?_ ?_
      · intro od D hD hne p hp acc Nx hz h1 h2
        refine ⟨rfl, _, rfl, ⟨_, rfl⟩, _, rfl, _, _, rfl, rfl, _, rfl, ?_⟩
        rw [ends_S]
        refine ite2 (fun hc => ?_) (fun hc => h2 (by simpa using hc))
        have hpl := fin_le hc
        rw [List.length_take, Nat.min_eq_left (by omega)] at hpl
        have hp1 := (g.ln p hp)
        have hix : i + 1 - p.1.length < fs.length := by omega
        refine ⟨_, rfl, _, rfl, _, rfl, _, rfl, by omega, _, _, rfl, rfl, ?_⟩
        have hfD : f ≠ D := ne_of_none hf1 hD
        refine ⟨f, fs.map V.int, _, V.int (fs[i + 1 - p.1.length]'hix), rfl, rfl, SqL.of (by rw [upd_ne hfD, upd_ne hdf.symm]; exact hf1), ?_, ?_⟩
        · have : (1 + (i : Int) - (p.1.length : Int)) = ((i + 1 - p.1.length : Nat) : Int) := by omega
          rw [this]
          exact atI_nat (by simp [hix])
        refine ⟨_, rfl, _, rfl, d, .int p.2, rfl, ?_, _, _, rfl, rfl, acc, upd_same, hz, ?_⟩
        · have := dget_frz (f := V.int) (H := H1) (d := d) (D := D) (od := od) (acc := acc) (m := bk) hne p.1
          rw [getA_mem g.nd hp] at this
          exact this
        · rw [upd_upd]
          have := h1 hc
          rw [List.getElem?_eq_getElem hix] at this
          exact this
      · intro D hD
        have hfD : f ≠ D := ne_of_none hf1 hD
        refine ⟨D, (bk.filter fun p => fin p.1 (t.take (i + 1))).map fun p => (fs[i + 1 - p.1.length]?).getD 0 + p.2, rfl, SqL.of (by rw [upd_same, List.map_map]; rfl), ?_, fun m hm hmin => ?_⟩
        · obtain ⟨c, hc⟩ : ∃ c, t[i]? = some c := ⟨_, List.getElem?_eq_getElem hi⟩
          obtain ⟨p, hp, ep⟩ := List.mem_map.mp (ho c (List.mem_of_getElem? hc))
          rw [List.length_map]
          refine List.length_pos_of_mem (a := p) (List.mem_filter.mpr ⟨hp, ?_⟩)
          rw [ep]
          exact fin_one hc
        have cand : ∀ y, Cand bk t fs fs.length y ↔ y ∈ (bk.filter fun p => fin p.1 (t.take (i + 1))).map fun p => (fs[i + 1 - p.1.length]?).getD 0 + p.2 := fun y => by
          rw [hfl, List.mem_map]
          constructor
          · rintro ⟨p, hp, h1, v, h2, h3⟩
            exact ⟨p, List.mem_filter.mpr ⟨hp, h1⟩, by rw [h2, h3]; rfl⟩
          · rintro ⟨p, hp, h1⟩
            obtain ⟨h2, h4⟩ := List.mem_filter.mp hp
            have hp1 := (g.ln p h2)
            have hix : i + 1 - p.1.length < fs.length := by omega
            refine ⟨p, h2, h4, fs[i + 1 - p.1.length], List.getElem?_eq_getElem hix, ?_⟩
            rw [← h1, List.getElem?_eq_getElem hix]
            rfl
        refine ⟨f, fs.map V.int, _, rfl, rfl, by rw [upd_ne hfD]; exact hf1, ?_, ?_⟩
        · rw [List.length_map]
          omega
        refine ⟨fs ++ [m], _, _, rfl, ?_, ?_, ?_, ?_⟩
        · exact (hk.up (.inl (hk.free hD (by simp)))).up (.inl hf)
        · rw [upd_same, List.map_append]
          rfl
        · exact dp_snoc (fun p hp => (g.ln p hp).1) hdp (by omega) ((cand m).mpr hm) fun y hy => hmin y ((cand y).mp hy)
        · rw [List.length_append, hfl]
          rfl
    · rintro σ H1 ⟨fs, x, y, rfl, hk, hf1, hdp, hfl⟩
      exact ⟨_, rfl, k f fs H1 hf hk hf1 hdp hfl⟩
end
end K75
-- part P3
set_option Elab.async false
set_option linter.all false
set_option maxRecDepth 100000
set_option maxHeartbeats 4000000
namespace K75
open PySem PySem.Spec PyProof.Rows L2
theorem fin_cut {p t : Tx0} {s : Nat} (hs : s ≤ t.length) : fin p (t.take s) = true ↔ p.length ≤ s ∧ p = (t.drop (s - p.length)).take p.length := by
  unfold fin
  rw [decide_eq_true_iff, List.length_take, Nat.min_eq_left hs, List.drop_take]
  constructor
  · rintro ⟨h1, h2⟩
    rw [show s - (s - p.length) = p.length by omega] at h2
    exact ⟨h1, h2.symm⟩
  · rintro ⟨h1, h2⟩
    refine ⟨h1, ?_⟩
    rw [show s - (s - p.length) = p.length by omega]
    exact h2.symm
theorem last_int {fs : List Int} {n : Nat} {v : Int} (hl : fs.length = n + 1) (hv : fs[n]? = some v) : atI (fs.map V.int) (-1) = some (.int v) := by
  have e : fs = fs.take n ++ [v] := by
    have := List.take_append_drop n fs
    have e2 : fs.drop n = [v] := by
      rw [List.drop_eq_getElem_cons (by omega), List.drop_eq_nil_of_le (by omega)]
      rw [List.getElem?_eq_getElem (by omega)] at hv
      rw [Option.some.inj hv]
    rw [e2] at this
    exact this.symm
  rw [e, List.map_append]
  exact atI_end _ _
section
variable {P : Program} {w : World} {K : PySem.W.Frag} {mg : Str → Option Value} {base : Heap} {CB CC CF : Addr}
def sp_p_prices_along (CB : Addr) : Sp := fun vs H Q _ => ∃ (a : Addr) (bk : Bk) (t : Tx0), vs = [.ref a, tv t] ∧ BookH CB H a bk ∧ Ov bk t ∧ t.length ≤ 10000 ∧
  ∀ (f : Addr) (fs : List Int) (H' : Hp), H f = none → Kp [] H H' → H' f = some (.lst (fs.map V.int)) → DPok bk t fs → fs.length = t.length + 1 → Q (.ref f) H'
theorem c_p_prices_along (T : Ty K mg CB CC CF) : C8.Cal P w K mg base 1 "prices_along" (sp_p_prices_along CB) [] := by
  refine cal_of T.d_p_prices_along sc_p_prices_along (fun _ _ _ _ _ _ us hl => match us, hl with | [_, _], _ => rfl) (fun vs H Q E h => ?_) (fun cdv A outer f s H vs Q E hr h => ?_)
  · obtain ⟨a, bk, t, rfl, _⟩ := h
    rfl
  · obtain ⟨a, bk, t, rfl, ⟨dx, d, p0, al, ac, lg, de, b⟩, ho, htl, k⟩ := h
    have h3 : sizeLine = 16777216 := sizeLine_eq
    refine ⟨_, (pss_cons (ps_set (i := 2) sc_p_prices_along.nd rfl (Or.inl rfl) (pe_lst (pa_cons pe_int pa_nil)))
  (pss_cons (ps_for PassesOwn.never rfl (pi_range2 (by rfl) T.n_range (pa_cons pe_int (pa_cons (pe_op op_add (pe_callB call_lenT (by rfl) T.n_len (by decide +kernel) (pa_cons (pv 1) pa_nil)) pe_int) pa_nil))) (pg_name (i := 3) sc_p_prices_along.nd rfl (Or.inl rfl))
    (pss_cons (ps_set (i := 4) sc_p_prices_along.nd rfl (Or.inl rfl) (pe_op op_add (pe_ix (ix_listK (K := K) rfl) (pv 2) (pe_un un_neg pe_int) (fun _ _ => rfl)) (pe_dget (hu1 hr) (pe_fldK (K := K) rfl (pv 0)) (pe_ix ix_str (pv 1) (pe_op op_sub (pv 3) pe_int) (fun _ _ => rfl)) (fun _ _ => rfl))))
    (pss_cons (ps_for PassesOwn.never rfl (pi_range2 (by rfl) T.n_range (pa_cons (pe_callB (call_max2 rfl) (by rfl) T.n_max (by decide +kernel) (pa_cons pe_int (pa_cons (pe_op op_sub (pv 3) (pe_fldK (K := K) rfl (pv 0))) pa_nil))) (pa_cons (pe_op op_sub (pv 3) pe_int) pa_nil))) (pg_name (i := 5) sc_p_prices_along.nd rfl (Or.inl rfl))
      (pss_cons (ps_set (i := 6) sc_p_prices_along.nd rfl (Or.inl rfl) (pe_dget1 (hu1 hr) (pe_fldK (K := K) rfl (pv 0)) (pe_slice sl_tx (pv 1) (po_some (pv 5)) (po_some (pv 3))) ⟨by rfl, by rfl, by rfl, by rfl⟩))
      (pss_one (ps_if (PW.pt (pw_and (pt_cmpR op_notN (pv 6) pe_non (nomark _)) (pw_and1 (pt_cmpR op_lt (pe_op op_add (pe_ix (ix_listK (K := K) rfl) (pv 2) (pv 5) (fun _ _ => rfl)) (pv 6)) (pv 4) (nomark _)))))
        (pss_one (ps_set (i := 4) sc_p_prices_along.nd rfl (Or.inl rfl) (pe_op op_add (pe_ix (ix_listK (K := K) rfl) (pv 2) (pv 5) (fun _ _ => rfl)) (pv 6))))
        pss_nil))))
    (pss_one (ps_expr (pe_bm PySem.F.plainAttrs_list PySem.F.slot_list_append PySem.F.type_list_append mt_append (pv 2) (pa_cons (pv 4) pa_nil)))))))
  (pss_one (ps_ret (pv 2))))), ?_⟩
    refine ⟨by show 1 ≤ sizeLine; omega, fun f hf => ⟨_, rfl, _, rfl, by omega, _, _, rfl, rfl, 1, ((t.length : Int) + 1), rfl, ⟨by omega, by omega, by omega, by omega⟩, ?_⟩⟩
    rw [show ((t.length : Int) + 1 - 1).toNat = t.length by omega]
    refine for_range (lo := 1) (n := t.length) (fun i σ' H' => ∃ (fs : List Int) (x y z u : Option V), σ' = [some (.ref a), some (tv t), some (.ref f), x, y, z, u] ∧ Kp [] H H' ∧ H' f = some (.lst (fs.map V.int)) ∧ DPok bk t fs ∧ fs.length = i + 1)
      ⟨[0], none, none, none, none, rfl, (kp_refl H).up (.inl hf), upd_same, dp_nil bk t, rfl⟩ ?_ ?_
    · rintro i σ H1 hi ⟨fs, x, y, z, u, rfl, hk, hf1, hdp, hfl⟩
      have b1 := b.kp0 hk
      have g := b.g
      have hlt : t.length ≤ sizeLine := by omega
      obtain ⟨c, hc⟩ : ∃ c, t[i]? = some c := ⟨_, List.getElem?_eq_getElem hi⟩
      obtain ⟨q1, hq1, eq1⟩ := List.mem_map.mp (ho c (List.mem_of_getElem? hc))
      obtain ⟨v0, hv0⟩ : ∃ v, fs[i]? = some v := ⟨_, List.getElem?_eq_getElem (by omega)⟩
      have hat : atI (fs.map V.int) (-1) = some (.int v0) := by
        have e : fs = fs.take i ++ [v0] := by
          have := List.take_append_drop i fs
          have e2 : fs.drop i = [v0] := by
            rw [List.drop_eq_getElem_cons (by omega), List.drop_eq_nil_of_le (by omega)]
            rw [List.getElem?_eq_getElem (by omega)] at hv0
            rw [Option.some.inj hv0]
          rw [e2] at this
          exact this.symm
        rw [e, List.map_append]
        exact atI_end _ _
      refine ⟨_, rfl, _, rfl, _, _, _, _, rfl, rfl, SqL.of hf1, hat, _, rfl, _, _, _, _, _, rfl, b1.ha, T.cl_Book, T.no_Book_own_prices, rfl, _, rfl, _, rfl, _, _, rfl, rfl, SX.S t, _, c, rfl, rfl, by rw [SX.S_len]; omega, ?_, d, .int q1.2, rfl, ?_, _, _, rfl, rfl, ?_⟩
      · rw [show (1 + (i : Int) - 1) = ((i : Nat) : Int) by omega]
        exact atI_nat hc
      · have := dget_S (f := V.int) b1.hd (getA_mem g.nd hq1)
        rw [eq1] at this
        exact this
      · refine ⟨_, rfl, _, rfl, _, _, _, _, _, rfl, b1.ha, T.cl_Book, T.no_Book_own_longest, rfl, _, _, rfl, rfl, ?_⟩
        have hlo : ∃ lo : Nat, (if (1 + (i : Int) - (lg : Int)) > 0 then 1 + (i : Int) - (lg : Int) else 0) = (lo : Int) ∧ lo ≤ i ∧ i + 1 ≤ lo + lg := by
          have h1 := b.hlg1
          by_cases hq : (1 + (i : Int) - (lg : Int)) > 0
          · exact ⟨i + 1 - lg, by rw [if_pos hq]; omega, by omega, by omega⟩
          · exact ⟨0, by rw [if_neg hq]; rfl, by omega, by omega⟩
        obtain ⟨lo, elo, hlo1, hlo2⟩ := hlo
        refine ⟨_, _, rfl, ?_⟩
        rw [elo]
        refine ⟨_, rfl, _, _, rfl, rfl, (lo : Int), (i : Int), ?_, ⟨by omega, by omega, by omega, by omega⟩, ?_⟩
        · show [V.int (lo : Int), V.int (1 + (i : Int) - 1)] = _
          rw [show (1 + (i : Int) - 1) = (i : Int) by omega]
        rw [show ((i : Int) - (lo : Int)).toNat = i - lo by omega]
        have h1c : Cand bk t fs (i + 1) (v0 + q1.2) := ⟨q1, hq1, by rw [eq1]; exact fin_one hc, v0, by rw [eq1]; exact hv0, rfl⟩
        have step1 : ∀ p ∈ bk, fin p.1 (t.take (i + 1)) = true → p.1.length = 1 → ∀ y, fs[i + 1 - p.1.length]? = some y → v0 + q1.2 ≤ y + p.2 := by
          intro p hp hfp hl1 y hy
          have e1 := ((fin_cut (by omega)).mp hfp).2
          have e2 := ((fin_cut (p := [c]) (by omega)).mp (fin_one hc)).2
          rw [hl1] at e1
          have e3 : p.1 = q1.1 := by rw [e1, eq1]; exact e2.symm
          have e4 : p.2 = q1.2 := by
            have a1 := getA_mem g.nd (show (p.1, p.2) ∈ bk from hp)
            have a2 := getA_mem g.nd (show (q1.1, q1.2) ∈ bk from hq1)
            rw [e3, a2] at a1
            exact (Option.some.inj a1).symm
          rw [hl1] at hy
          have : fs[i]? = some y := hy
          rw [hv0] at this
          rw [Option.some.inj this, e4]
          exact Int.le_refl _
        refine for_range (lo := (lo : Int)) (n := i - lo) (fun j σ' H' => ∃ (best : Int) (z u : Option V), σ' = [some (.ref a), some (tv t), some (.ref f), some (.int (1 + (i : Int))), some (.int best), z, u] ∧ H1 = H' ∧ Cand bk t fs (i + 1) best ∧ ∀ p ∈ bk, fin p.1 (t.take (i + 1)) = true → (p.1.length = 1 ∨ i + 1 - p.1.length < lo + j) → ∀ y, fs[i + 1 - p.1.length]? = some y → best ≤ y + p.2)
          ⟨_, _, _, rfl, rfl, h1c, fun p hp hfp ho y hy => by
            rcases ho with ho | ho
            · exact step1 p hp hfp ho y hy
            · have := b.hlg p.1 (List.mem_map_of_mem hp)
              omega⟩ ?_ ?_
        · rintro j σ H2 hj ⟨best, z, u, rfl, rfl, hcand, hmin⟩
          have hst : lo + j < i := by omega
          obtain ⟨w0, hw0⟩ : ∃ v, fs[lo + j]? = some v := ⟨_, List.getElem?_eq_getElem (by omega)⟩
          refine ⟨_, rfl, _, _, _, _, _, rfl, b1.ha, T.cl_Book, T.no_Book_own_prices, rfl, _, rfl, .inl ⟨_, .inl b1.hd⟩, _, rfl, _, rfl, _, rfl, _, rfl, _, rfl, _, rfl, hlt, .inr (.inr ⟨lo + j, i + 1, by rw [Int.natCast_add], by rw [Int.add_comm]; rfl, _, dget_A b1.hd _, ?_⟩)⟩
          have hslen : ((t.drop (lo + j)).take (i + 1 - (lo + j))).length = i + 1 - (lo + j) := by
            rw [List.length_take, List.length_drop]
            omega
          have hfin : fin ((t.drop (lo + j)).take (i + 1 - (lo + j))) (t.take (i + 1)) = true := by
            rw [fin_cut (by omega), hslen]
            refine ⟨by omega, ?_⟩
            rw [show i + 1 - (i + 1 - (lo + j)) = lo + j by omega]
          generalize hpc : (t.drop (lo + j)).take (i + 1 - (lo + j)) = pc at hslen hfin
          cases hg : getA bk pc with
          | none =>
            refine ⟨_, rfl, rfl, _, rfl, iteF' rfl ⟨_, _, _, rfl, rfl, hcand, fun p hp hfp ho2 y hy => ?_⟩⟩
            rcases ho2 with ho2 | ho2
            · exact hmin p hp hfp (.inl ho2) y hy
            · by_cases e : i + 1 - p.1.length < lo + j
              · exact hmin p hp hfp (.inr e) y hy
              · have hpl := (g.ln p hp)
                have e2 := ((fin_cut (by omega)).mp hfp)
                have e3 : p.1.length = i + 1 - (lo + j) := by omega
                have e4 : p.1 = pc := by
                  rw [← hpc, e2.2, e3, show i + 1 - (i + 1 - (lo + j)) = lo + j by omega]
                have := getA_mem g.nd (show (p.1, p.2) ∈ bk from hp)
                rw [e4, hg] at this
                cases this
          | some pr =>
            have hmem := getA_some hg
            have hpcl := (g.ln _ hmem).2
            refine ⟨_, rfl, rfl, _, rfl, iteT' rfl ⟨_, rfl, _, rfl, _, _, _, .int w0, rfl, rfl, SqL.of hf1, ?_, _, rfl, _, _, rfl, rfl, _, rfl, _, _, rfl, rfl, _, rfl, ite2 (fun hlt2 => ?_) (fun hlt2 => ?_)⟩⟩
            · rw [show (lo : Int) + (j : Int) = ((lo + j : Nat) : Int) by omega]
              exact atI_nat (by rw [List.getElem?_map, hw0]; rfl)
            · have hb2 : w0 + pr < best := of_decide_eq_true hlt2
              refine ⟨_, rfl, _, rfl, _, _, _, .int w0, rfl, rfl, SqL.of hf1, ?_, _, rfl, _, _, rfl, rfl, w0 + pr, _, _, rfl, rfl, ?_, fun p hp hfp ho2 y hy => ?_⟩
              · rw [show (lo : Int) + (j : Int) = ((lo + j : Nat) : Int) by omega]
                exact atI_nat (by rw [List.getElem?_map, hw0]; rfl)
              · exact ⟨_, hmem, hfin, w0, by rw [hslen, show i + 1 - (i + 1 - (lo + j)) = lo + j by omega]; exact hw0, rfl⟩
              · by_cases e : p.1.length = 1 ∨ i + 1 - p.1.length < lo + j
                · have := hmin p hp hfp e y hy
                  omega
                · have hpl := (g.ln p hp)
                  have e2 := ((fin_cut (by omega)).mp hfp)
                  have e3 : p.1.length = i + 1 - (lo + j) := by omega
                  have e4 : p.1 = pc := by
                    rw [← hpc, e2.2, e3, show i + 1 - (i + 1 - (lo + j)) = lo + j by omega]
                  have := getA_mem g.nd (show (p.1, p.2) ∈ bk from hp)
                  rw [e4, hg] at this
                  rw [e3, show i + 1 - (i + 1 - (lo + j)) = lo + j by omega, hw0] at hy
                  rw [← Option.some.inj this, ← Option.some.inj hy]
                  exact Int.le_refl _
            · have hb2 : ¬ (w0 + pr < best) := fun h => hlt2 (decide_eq_true h)
              refine ⟨best, _, _, rfl, rfl, hcand, fun p hp hfp ho2 y hy => ?_⟩
              by_cases e : p.1.length = 1 ∨ i + 1 - p.1.length < lo + j
              · exact hmin p hp hfp e y hy
              · have hpl := (g.ln p hp)
                have e2 := ((fin_cut (by omega)).mp hfp)
                have e3 : p.1.length = i + 1 - (lo + j) := by omega
                have e4 : p.1 = pc := by
                  rw [← hpc, e2.2, e3, show i + 1 - (i + 1 - (lo + j)) = lo + j by omega]
                have := getA_mem g.nd (show (p.1, p.2) ∈ bk from hp)
                rw [e4, hg] at this
                rw [e3, show i + 1 - (i + 1 - (lo + j)) = lo + j by omega, hw0] at hy
                rw [← Option.some.inj this, ← Option.some.inj hy]
                omega
        · rintro σ H2 ⟨best, z, u, rfl, rfl, hcand, hmin⟩
          refine ⟨_, rfl, .inl ⟨rfl, _, SqL.of hf1⟩, _, rfl, f, fs.map V.int, _, rfl, rfl, hf1, ?_, ?_⟩
          · rw [List.length_map]
            omega
          refine ⟨fs ++ [best], _, _, _, _, rfl, ?_, ?_, ?_, ?_⟩
          · exact hk.up (.inl hf)
          · rw [upd_same, List.map_append]
            rfl
          · refine dp_snoc (fun p hp => (g.ln p hp).1) hdp (by omega) (by rw [hfl]; exact hcand) ?_
            rw [hfl]
            rintro y ⟨p, hp, hfp, v, hv, rfl⟩
            have h5 := b.hlg p.1 (List.mem_map_of_mem hp)
            have h6 := g.ln p hp
            have h7 := ((fin_cut (by omega)).mp hfp).1
            refine hmin p hp hfp ?_ v hv
            by_cases e : p.1.length = 1
            · exact .inl e
            · exact .inr (by omega)
          · rw [List.length_append, hfl]
            rfl
    · rintro σ H1 ⟨fs, x, y, z, u, rfl, hk, hf1, hdp, hfl⟩
      exact ⟨_, rfl, k f fs H1 hf hk hf1 hdp hfl⟩
def sp_cheapest (CB : Addr) : Sp := fun vs H Q _ => ∃ (a : Addr) (bk : Bk) (t : Tx0), vs = [.ref a, tv t] ∧ BookH CB H a bk ∧ Ov bk t ∧ t.length ≤ 10000 ∧ ∀ (v : Int) (H' : Hp), Kp [] H H' → Cheap bk t v → Q (.int v) H'
theorem c_p_cheapest_price_in (T : Ty K mg CB CC CF) : C8.Cal P w K mg base 2 "cheapest_price_in" (sp_cheapest CB) [] := by
  refine cal_of T.d_p_cheapest_price_in sc_p_cheapest_price_in (fun _ _ _ _ _ _ us hl => match us, hl with | [_, _], _ => rfl) (fun vs H Q E h => ?_) (fun cdv A outer f s H vs Q E hr h => ?_)
  · obtain ⟨a, bk, t, rfl, _⟩ := h
    rfl
  · obtain ⟨a, bk, t, rfl, b, ho, htl, k⟩ := h
    refine ⟨_, (pss_one (ps_ret (pe_ix (ix_listK (K := K) rfl) (C8.pe_c (c_p_prices_along T) hr (by decide) (by rfl) (pa_cons (pv 0) (pa_cons (pv 1) pa_nil))) (pe_un un_neg pe_int) (fun _ _ => rfl)))), ?_⟩
    refine ⟨_, rfl, _, rfl, a, bk, t, rfl, b, ho, htl, fun f fs H1 hf hk hf1 hdp hfl => ?_⟩
    obtain ⟨v, hv⟩ : ∃ v, fs[t.length]? = some v := ⟨_, List.getElem?_eq_getElem (by omega)⟩
    refine ⟨_, rfl, _, _, _, .int v, rfl, rfl, SqL.of hf1, ?_, k v H1 hk ⟨fs, hdp, hfl, hv⟩⟩
    exact last_int hfl hv
end
end K75
-- part R5
set_option Elab.async false
set_option linter.all false
set_option maxRecDepth 100000
set_option maxHeartbeats 4000000
namespace K75
open PySem PySem.Spec PyProof.Rows L2
section
variable {X : Cx}
/-- sorted(a tuple of texts) -/
def rSortedTS (K : PySem.W.Frag) : List V → Hp → VK → Prop := fun vs H Q => ∃ (a : Addr) (xs : List Str), vs = [V.ref a] ∧ SqT K H a (xs.map V.str) ∧ xs.length < 64 ∧
  ∀ (ys : List Str) (p : Addr), ys.Perm xs → sortedS ys = true → H p = none → Q (.ref p) (upd H p (.lst (ys.map V.str)))
theorem cr_sortedTS : CallR X (.builtin "sorted") (rSortedTS X.K) := by
  intro pins s σ H xs us Q I r q
  obtain ⟨a, ks, rfl, hs, h64, q⟩ := q
  obtain ⟨its, rv, ⟨o, ho, hc, n, hd⟩, hz⟩ := I.tuple hs
  rw [Vals.ref1 r]
  have hS : StrsAre its ks := rv.strs
  have hal : its.length = ks.length := by
    have z := rv.length
    rw [List.length_map] at z
    exact z.symm
  refine Calls.call_function_entry PyProof.Rows.kind_sorted PyProof.Rows.plain_sorted PyProof.Rows.entry_sorted (PyProof.Rows.args_sorted1 _) ?_
  unfold Builtin.«sorted»
  refine wpAny_bind (m := checkCount "sorted" 1 1 _) (wpAny_pure ?_)
  have h3 : sizeLine = 16777216 := sizeLine_eq
  refine wpAny_bind (wpAny_collect_seq a (T := "tuple") (.inr rfl) ho hc hd (fun h' hk => ?_) (by rw [List.size_toArray, hal]; omega))
  have I1 : Inv X pins σ H { s with heap := h' } := I.kept (t' := s.toks) hk
  have eits : its.toArray.toList = its := by simp
  refine wpAny_bind (wpAny_newList ?_ (by rw [eits, hal]; omega))
  rw [eits]
  have hoL : (h'.push (seqObj "list" its.toArray 0)).get? h'.objs.size = some (seqObj "list" its.toArray 0) := Heap.get?_push_size _ rfl
  show wpAny _ _ _ _ _ { s with heap := h'.push (seqObj "list" its.toArray 0) }
  refine wpAny_bind (wpAny_holding (wpAny_call_entry PyProof.Rows.slot_list_sort ⟨_, hoL, rfl⟩ PyProof.Rows.entry_list_sort
    (list_sort_treeK strKind_oneLt (s := { s with heap := h'.push (seqObj "list" its.toArray 0) }) hoL hS.keysOf (fun v₁ v₂ rest e => keyKind_strs (by rw [← e]; exact hS)) (by rw [hal]; exact h64) fun st' hp hs => ⟨_, rfl, ?_⟩)
    (PyProof.Rows.args_list_sort _)))
  obtain ⟨ys, g1, g2, g3⟩ := sorted_out_str hS hp hs
  obtain ⟨e', he'⟩ := PyProof.Rows.sortedHeap_at (vs := its) (out := (arrOf st').map (·.2)) hoL
  have hlen : (ys.map V.str).length ≤ sizeLine := by
    rw [List.length_map, g2.length_eq]
    omega
  refine wpAny_pure ⟨_, rfl, .ref h'.objs.size, upd H h'.objs.size (.lst (ys.map V.str)), I1.laid (t' := s.toks) (fun b u e => ?_) (Nat.le_refl _)
    (show ObjOk X.prog X.w _ _ _ (.lst (ys.map V.str)) from ⟨hlen, ((arrOf st').map (·.2)).toList, e', vals_of_strs g1, by rw [Array.toArray_toList]; exact he'⟩), rfl, q ys _ g2 g3 (I1.hok.fresh (Nat.le_refl _))⟩
  have hb : b < h'.objs.size := Heap.lt_size e
  rw [PyProof.Rows.sortedHeap_old (Nat.ne_of_lt hb) (by rw [size_push']; exact Nat.lt_succ_of_lt hb)]
  exact Heap.get?_push_of_some _ e
end
end K75
-- part R6
set_option Elab.async false
set_option linter.all false
set_option maxRecDepth 100000
set_option maxHeartbeats 4000000
namespace K75
open PySem PySem.Spec PyProof.Rows L2 PpSet
/-! a set comprehension of whole numbers -/
abbrev set0 (w : World) (D : Addr) : HO := SetO w D (fun _ => false) 0
abbrev setPlus (w : World) (D : Addr) (S : Int → Bool) (n : Nat) (k : Int) : HO := SetO w D (fun j => S j || decide (j = k)) (if S k = true then n else n + 1)
/-- its reading: the new set stands at D -/
def tSi (w : World) (wi : TI) (g : TG) (tt : TT) (te : TE) (vs : List Nat) : TE := fun σ H Q => wi σ H fun J Ha => ∀ D, Ha D = none → ∃ W : Nat → Nat → Hp → Prop,
  (∃ m, W 0 m (upd Ha D (set0 w D))) ∧ ∀ i m H, W i m H → (J.stop i H ∧ Q (.ref D) H) ∨ (J.go i H ∧ ∃ Nx : Hp → Prop, (∀ Hb, Nx Hb → ∃ k, k < m ∧ W (i + 1) k Hb) ∧
    ∀ x Hb, J.yld i H x Hb → g x (wipe σ vs) Hb fun σc Hc => wipe σc vs = wipe σ vs ∧ tt σc Hc fun b Hd =>
      if b = true then te σc Hd fun y He => ∃ k S n, y = .int k ∧ He D = some (SetO w D S n) ∧ n + 1 < scanBound ∧ Nx (upd He D (setPlus w D S n k)) else Nx Hd)
section
variable {X : Cx}
theorem put_ok {pins : List (Addr × Obj)} {σ : L2.St} {H : Hp} {s : Shared} {D : Addr} {k : Int} {u : Value} {S : Int → Bool} {n : Nat} {E : Value → Shared → Prop} {Q : Value → Shared → Prop} (I : Inv X pins σ H s) (hD : H D = some (SetO X.w D S n))
    (rk : RelV (.int k) u) (room : n + 1 < scanBound) (q : ∀ s', Inv X pins σ (upd H D (setPlus X.w D S n k)) s' → Q .none s') : wpAny (model X.prog X.w) X.A (call (.builtin "set.add") [.ref D, u]) Q E s := by
  obtain ⟨t, rfl⟩ := rk
  refine setR_add (setO_get I hD) room fun h2 kept made => q _ ?_
  obtain ⟨o, _, _, _, ho, _⟩ := id made
  exact I.write (e := D) (t' := s.toks + 1) (by rw [hD]; trivial) (.inl rfl) (fun b u hb hu => (kept.2 b hb).trans hu) ⟨o, ho⟩ (setO_new made)
theorem si_core {pins : List (Addr × Obj)} {s : Shared} {σ : L2.St} {H : Hp} {Q : VK} {elt tg iter : Expr} {ifs : List Expr} {scope : Scope} {own : List (PySem.Str × Nat)} {pos pos' : Pos} {wi : TI} {g : TG} {tt : TT} {te : TE} {use : Option (Value → Sem Unit)} {Qf : Value → Shared → Prop}
    (calm : X.calm = true) (nd : X.N.Nodup) (I : Inv X pins σ H s) (pit : PI X tg iter wi) (ok : BlkOk X.N X.env.scope scope own)
    (ptg : ∀ s H C cl fp, PG (X.blk s H scope (compEnvC scope cl C X.env) fp) tg g) (pif : ∀ s H C cl fp, PTs (X.blk s H scope (compEnvC scope cl C X.env) fp) ifs tt)
    (pel : ∀ s H C cl fp, PE (X.blk s H scope (compEnvC scope cl C X.env) fp) elt te) (fold : ∀ x, foldedSetIterable iter X.env x = pure x) (q0 : tSi X.w wi g tt te (own.map (·.2)) σ H Q)
    (out : ∀ D C s' m Hz, Inv X pins σ Hz s' → Q (.ref D) Hz → s'.heap.Ns C m → FpOk X pins Hz C → compPost (model X.prog X.w) X.A X.xe use Qf (.ref D) C (.ok .next) s') :
    wpAny (model X.prog X.w) X.A (comprehension (.SetComp elt [⟨tg, iter, ifs, 0⟩] scope pos) scope X.env pos' (newSet (.type "set")) false (eval iter X.env) use) Qf X.xe s := by
  have frees : ∀ y ∈ scope.names, y.2 = .free → ∃ c, X.env.cells.lookup y.1 = some c := fun y hy e => (ok.free y hy e).elim (fun z => I.ok.has _ (.inl z)) fun z => I.ok.has _ (.inr z)
  refine wpAny_comprehension_free (use := use) rfl fold (closure_ok frees) ok.kind (fun y hy e => by rw [ok.uniq y hy, e]) (thn (pit.run pins s σ H _ I q0) fun _ sa ha => thn ha fun _ sb hb => ?_)
  obtain ⟨it, fp, tn, J, Ha, rfl, Ib, T, stb, fb, q⟩ := hb
  refine newSet_ok (newEnv_comp ?_)
  generalize eD : sb.heap.objs.size = D
  obtain ⟨W, ⟨m0, w0⟩, turn⟩ := q D (Ib.hok.fresh (Nat.le_of_eq eD))
  generalize ec : ({ sb with heap := sb.heap.push { cls := .type "set", dict := none, data := .set #[] 0 (.fresh 0 0 (!X.w.params.followText "set-order")) } } : Shared) = sc
  have hc : sc.heap = sb.heap.push { cls := .type "set", dict := none, data := .set #[] 0 (.fresh 0 0 (!X.w.params.followText "set-order")) } := by rw [← ec]
  have Ic : Inv X pins σ (upd Ha D (set0 X.w D)) sc := by
    rw [← ec]
    refine Ib.laid (t' := sb.toks) (fun b o e => Heap.get?_push_of_some _ e) (Nat.le_of_eq eD) ?_
    rw [← eD]
    exact setO_new (setR_fresh X.w)
  have low : ∀ b ∈ fp, b < sb.heap.objs.size := fun b hb => let ⟨o, e, _⟩ := T.obj _ _ stb b hb; Heap.lt_size e
  have fc : ∀ b ∈ fp, FpOk X pins (upd Ha D (set0 X.w D)) b ∧ b < sc.heap.objs.size := fun b hb => by
    have lt := low b hb
    have ne : b ≠ D := fun z => Nat.lt_irrefl _ (by rw [← eD] at z; rw [z] at lt; exact lt)
    exact ⟨⟨by rw [upd_ne ne]; exact (fb b hb).1, (fb b hb).2⟩, by rw [hc, Heap.size_push]; exact Nat.lt_succ_of_lt lt⟩
  have stc : tn 0 sc.heap := T.keep _ _ _ stb fun b _ o e => by rw [hc]; exact Heap.get?_push_of_some _ e
  have Id := block_start Ic ok nd fc
  have pg := ptg sc (upd Ha D (set0 X.w D)) sc.heap.objs.size (cellsFrom (sc.heap.objs.size + 1) scope.names (cloFrom X.env.cells scope.names [])) fp
  have pt := pif sc (upd Ha D (set0 X.w D)) sc.heap.objs.size (cellsFrom (sc.heap.objs.size + 1) scope.names (cloFrom X.env.cells scope.names [])) fp
  have pe := pel sc (upd Ha D (set0 X.w D)) sc.heap.objs.size (cellsFrom (sc.heap.objs.size + 1) scope.names (cloFrom X.env.cells scope.names [])) fp
  show codeAny _ _ (.compStart (.SetComp elt [⟨tg, iter, ifs, 0⟩] scope pos) 0 (.ref it) (.ref D) (compEnvC scope (cellsFrom (sc.heap.objs.size + 1) scope.names (cloFrom X.env.cells scope.names [])) sc.heap.objs.size X.env))
    (compPost (model X.prog X.w) X.A X.xe use Qf (.ref D) sc.heap.objs.size) { sc with heap := pushCells (sc.heap.push { cls := .type "dict", data := .dict #[] }) scope.names }
  have nf : ∀ b ∈ fp, (upd Ha D (set0 X.w D)) b = none := fun b hb => (fc b hb).1.1
  generalize ee : compEnvC scope (cellsFrom (sc.heap.objs.size + 1) scope.names (cloFrom X.env.cells scope.names [])) sc.heap.objs.size X.env = en at Id pg pt pe ⊢
  have loc : en.locals = sc.heap.objs.size := by subst ee; rfl
  generalize eh : upd Ha D (set0 X.w D) = Hc at Ic Id pg pt pe w0 nf fc
  generalize ed : ({ sc with heap := pushCells (sc.heap.push { cls := .type "dict", data := .dict #[] }) scope.names } : Shared) = sd at Id ⊢
  have std : tn 0 sd.heap := T.keep _ _ _ stc fun b _ o e => by rw [← ed]; exact pushCells_keeps _ _ _ _ (Heap.get?_push_of_some _ e)
  have quiet : ∀ {σx : L2.St} {Hx : Hp} {sx : Shared}, Inv (X.blk sc Hc scope en fp) [] σx Hx sx → (∀ b ∈ fp, Hx b = none) → ∀ b ∈ fp, FpOk (X.blk sc Hc scope en fp) [] Hx b := fun Ix hn b hb =>
    ⟨hn b hb, (Ix.ok.exf b hb).1, Ix.ok.exfs b hb, .inl hb, fun x c e => (Ix.ok.exf b hb).2 x c e, fun p hp => absurd (show p ∈ ([] : List (Addr × Obj)) ++ [] from hp) (by simp)⟩
  have loop : codeAny (model X.prog X.w) X.A (.compLoop (.SetComp elt [⟨tg, iter, ifs, 0⟩] scope pos) 0 (.ref it) (.ref D) en) (compPost (model X.prog X.w) X.A X.xe use Qf (.ref D) sc.heap.objs.size) sd := by
    refine compLoopS_any (fun n sx => ∃ i Hx, Inv (X.blk sc Hc scope en fp) [] (wipe σ (own.map (·.2))) Hx sx ∧ tn i sx.heap ∧ (∀ b ∈ fp, Hx b = none) ∧ W i n Hx) ?_ m0 ⟨0, Hc, Id, std, nf, w0⟩
    rintro n se ⟨i, He, Ie, ste, ne, we⟩
    rcases turn i n He we with ⟨stop, last⟩ | ⟨go, Nx, fewer, step⟩
    · refine thnF (T.done (X.blk sc Hc scope en fp) rfl rfl rfl calm i [] se _ He (fun _ _ => False) Ie (quiet Ie ne) ste stop) fun r sf ⟨er, If⟩ => ?_
      subst er
      have back : Inv X pins σ He sf := Ic.call' (ch := fp) If.os If.base If.hok If.bare fun b hb => let z := (fc b hb).1.2; ⟨z.2.2.1, z.1, z.2.2.2.1, z.2.2.2.2⟩
      have free : He sc.heap.objs.size = none := by rw [← loc]; exact If.free
      obtain ⟨m, ns, _⟩ := If.loc
      have ns2 : sf.heap.Ns sc.heap.objs.size m := by rw [← loc]; exact ns
      exact out D sc.heap.objs.size sf m He back last ns2 (Ic.fpOk (Nat.le_refl _) free)
    · refine thnF (T.item (X.blk sc Hc scope en fp) rfl rfl rfl calm i [] se _ He (fun _ _ => False) Ie (quiet Ie ne) ste go) fun r sf ⟨u, er, hf⟩ => ?_
      subst er
      refine thnF hf fun _ sg ⟨x, Hg, Ig, rx, yl, stg, ng⟩ => ?_
      refine thnF (pg.run _ sg _ Hg x u _ (Ig.pinned (quiet Ig ng) (T.obj _ _ stg)) rx (step x Hg yl)) fun _ sh ⟨σh, Hh, Ih, wh, qh⟩ => ?_
      refine thnF (pt.run _ sh σh Hh _ Ih qh) fun b si ⟨Hi, Ii, qi⟩ => ?_
      have close : ∀ {sx : Shared} {Hx : Hp}, Inv (X.blk sc Hc scope en fp) ([] ++ pinsAt fp sg.heap) σh Hx sx → Nx Hx →
          ∃ m, m < n ∧ ∃ i Hx, Inv (X.blk sc Hc scope en fp) [] (wipe σ (own.map (·.2))) Hx sx ∧ tn i sx.heap ∧ (∀ b ∈ fp, Hx b = none) ∧ W i m Hx := fun {sx Hx} Ix nx => by
        obtain ⟨m, lt, wx⟩ := fewer Hx nx
        have pinned : ∀ b ∈ fp, ∀ o, sg.heap.get? b = some o → sx.heap.get? b = some o ∧ Hx b = none := fun b hb o e => by
          have z := Ix.pin (b, o) (List.mem_append_right _ (List.mem_append_right _ (mem_pinsAt hb e)))
          exact ⟨z.1, z.2.1⟩
        have same : (wipe σ (own.map (·.2))).length = σh.length := by rw [← wh, wipe_length]
        refine ⟨m, lt, i + 1, Hx, (Ix.unpinned (pins := [])).weak same (fun j v e => ?_), T.keep _ _ _ stg fun b hb o e => (pinned b hb o e).1, fun b hb => ?_, wx⟩
        · rw [← wh] at e
          exact (wipe_some e).1
        · obtain ⟨o, e, _⟩ := T.obj _ _ stg b hb
          exact (pinned b hb o e).2
      cases b with
      | false =>
        simp only [Bool.false_eq_true, if_false] at qi ⊢
        exact close Ii qi
      | true =>
        simp only [if_true] at qi ⊢
        refine thnF (pe.run _ si σh Hi _ Ii qi) fun z sj ⟨y, Hj, Ij, ry, k, S, c, ey, hD, room, nx⟩ => ?_
        subst ey
        exact put_ok (X := X.blk sc Hc scope en fp) Ij hD ry room fun sk Ik => close Ik nx
  exact codeAny_compStart_set loop (T.self X.A 0 _ _ _ std loop)
theorem pe_si {elt tg iter : Expr} {ifs : List Expr} {scope : Scope} {own : List (PySem.Str × Nat)} {pos : Pos} {wi : TI} {g : TG} {tt : TT} {te : TE} (calm : X.calm = true) (nd : X.N.Nodup) (pit : PI X tg iter wi) (ok : BlkOk X.N X.env.scope scope own)
    (ptg : ∀ s H C cl fp, PG (X.blk s H scope (compEnvC scope cl C X.env) fp) tg g) (pif : ∀ s H C cl fp, PTs (X.blk s H scope (compEnvC scope cl C X.env) fp) ifs tt)
    (pel : ∀ s H C cl fp, PE (X.blk s H scope (compEnvC scope cl C X.env) fp) elt te) (fold : ∀ x, foldedSetIterable iter X.env x = pure x := by intro _; rfl) :
    PE X (.SetComp elt [⟨tg, iter, ifs, 0⟩] scope pos) (tSi X.w wi g tt te (own.map (·.2))) := by
  refine ⟨fun pins s σ H Q I h => ?_⟩
  rw [eval_SetComp]
  refine si_core calm nd I pit ok ptg pif pel fold h fun D C sx m Hx Ix q ns f => ⟨m, ns, fun h2 sb => ?_⟩
  exact ⟨.ref D, Hx, Ix.turned (t' := sx.toks) (fun b o hb e => (sb.2 b hb).trans e) f.1 f.2.1 f.2.2.2.1 f.2.2.2.2.1 f.2.2.2.2.2, rfl, q⟩
end
end K75
-- part R7
set_option Elab.async false
set_option linter.all false
set_option maxRecDepth 100000
set_option maxHeartbeats 4000000
namespace K75
open PySem PySem.Spec PyProof.Rows L2
section
variable {X : Cx} {e : Expr} {te : TE} {p apos cpos pos : Pos}
theorem vals_at : ∀ {us : List Value} {vs : List (Key × Value)} {kvs : List (Key × V)}, KV kvs vs → us.length = vs.length → (∀ (j : Nat) (v : Value), us[j]? = some v → ∃ k, vs[j]? = some (k, v)) → Vals (kvs.map (·.2)) us
  | [], _, _, .nil, _, _ => .nil
  | u :: us, _, _, .cons r t, hl, h => by
    obtain ⟨k, ek⟩ := h 0 u rfl
    have ek2 := Option.some.inj ek
    refine .cons ?_ (vals_at t (Nat.succ.inj hl) fun j v ev => ?_)
    · have := r.2
      rw [ek2] at this
      exact this
    · obtain ⟨k, ek⟩ := h (j + 1) v ev
      exact ⟨k, ek⟩
  | [], _, _, .cons r t, hl, _ => by cases hl
  | _ :: _, _, _, .nil, hl, _ => by cases hl
/-- list(d.values()) -/
def tListVals (te : TE) : TE := fun σ H Q => te σ H fun x H1 => ∃ (d : Addr) (kvs : List (Key × V)), x = .ref d ∧ H1 d = some (.dK kvs) ∧ ∀ q, H1 q = none → Q (.ref q) (upd H1 q (.lst (kvs.map (·.2))))
theorem pe_listVals (calm : X.calm = true) (he : PE X e te) (hg : Gl X "list") (hm : X.mg "list" = none) (hv : bootBuiltins "list" = some (.type "list")) (hbase : attributeBase e "values" X.env (eval e X.env) = eval e X.env := by rfl) (hline : (apos.endLine == cpos.line) = true := by rfl)
    (hs : starEach [.Call (.Attribute e "values" apos) [] [] cpos] X.env = (false, eval (.Call (.Attribute e "values" apos) [] [] cpos) X.env) :: starEach [] X.env := by rfl) :
    PE X (.Call (.Name "list" p) [.Call (.Attribute e "values" apos) [] [] cpos] [] pos) (tListVals te) := by
  refine ⟨fun pins s σ H Q I hq => ?_⟩
  refine wpAny_Call_Name_kw (ld_blt I hg hm hv ?_)
  refine PyProof.Rows.callWith_type1 ?_ hs rfl
  rw [hs]
  show wpAny _ _ (spliced ((false, eval (.Call (.Attribute e "values" apos) [] [] cpos) X.env) :: backTo pos (starEach [] X.env))) _ _ s
  refine Calls.spliced_cons (wpAny_Call_method (T := "dict") (id := "dict.values") hbase rfl hline PySem.F.plainAttrs_dict PySem.F.slot_dict_values PySem.F.type_dict_values (thn (he.run pins s σ H _ I hq) fun u sa ⟨x, Ha, Ia, rx, d, kvs, ex, hd, q⟩ => ?_))
  subst ex
  obtain rfl : u = Value.ref d := rx
  obtain ⟨hz, lo, vs, kv, dof⟩ := Ia.hok d _ hd
  obtain ⟨ep, hat⟩ := dof.dictAt
  have lk : kvs.length = vs.length := KV.length kv
  have Ib : Inv X pins σ Ha { sa with heap := sa.heap.push { cls := .type "dict_values", data := .fields #[.ref d] } } := Ia.kept (t' := sa.toks) fun b ob z => Heap.get?_push_of_some _ z
  refine ⟨dof.typeIs, dof.mapOf.noDict, ?_⟩
  show wpAny _ _ (callWith cpos (.builtin "dict.values") [.ref d] [] []) _ X.xe sa
  refine method_meetsIn PySem.F.slot_dict_values PySem.F.entry_dict_values rfl (PySem.evalArgs_none ⟨rfl, dof.typeIs, PySem.F.args_dict_values_1 _, _, meets_dict_values (mixKind X.prog X.w) d lo, ⟨vs, dof⟩, ?_⟩)
  refine Calls.spliced_nil ?_
  refine PySem.W.kdl_call (PySem.W.kdl_values (knd := mixKind X.prog X.w) (kvs := vs) (ep := ep)) (Ia.ok.hd calm) ⟨⟨_, Heap.get?_push_size _ rfl, rfl, rfl⟩, hat.push _⟩ (by omega) fun hh tk acc c kept made items => ?_
  have fresh := Ib.hok.fresh (Nat.le_refl _)
  refine ⟨.ref _, _, Ib.laid (t' := tk) kept (Nat.le_refl _) (show ObjOk X.prog X.w _ _ _ (.lst (kvs.map (·.2))) from ⟨by rw [List.length_map]; exact hz, acc.toList, c, ?_, by rw [Array.toArray_toList]; exact made⟩), rfl, q _ fresh⟩
  exact vals_at kv (by rw [Array.length_toList]; exact items.1) fun j v ev => items.2 j v (by rw [← Array.getElem?_toList]; exact ev)
end
end K75
-- part P4
set_option Elab.async false
set_option linter.all false
set_option maxRecDepth 100000
set_option maxHeartbeats 4000000
namespace K75
open PySem PySem.Spec PyProof.Rows L2
theorem pg_tupK {X : Cx} {K : PySem.W.Frag} {es : List Expr} {k : Nat} {t : TGs} {n : Nat} {pos : Pos} (hK : X.K = K) (hc : X.calm = true) (h : PGs X es t)
    (hn : (assignEach es X.env).length = n := by rfl) (hst : (assignEach es X.env).findIdx? (·.1) = none := by rfl) : PG X (.Tuple es k pos) (gTup K n t) := by
  subst hK
  exact pg_tup hc h hn hst
theorem kp_unlock {H H' : Hp} {d : Addr} {u : HO} (h : H d = some u) (k : Kp [d] H H') : Kp [] H (upd H' d u) := fun b o e _ => by
  by_cases z : b = d
  · subst z
    rw [upd_same, ← h, e]
  · rw [upd_ne z]
    exact k b o e (by simpa using z)
theorem all_true (n : Nat) : (List.replicate n true).all id = true := by
  rw [List.all_eq_true]
  intro x hx
  rw [List.eq_of_mem_replicate hx]
  rfl
section
variable {P : Program} {w : World} {K : PySem.W.Frag} {mg : Str → Option Value} {base : Heap} {CB CC CF : Addr}
def sp_are_prices : Sp := fun vs H Q _ => ∃ (d : Addr) (bk : Bk), vs = [.ref d] ∧ H d = some (.dK (dB bk)) ∧ GoodBook bk ∧ ∀ H', Kp [] H H' → Q (.bl true) H'
theorem c_p_are_prices (T : Ty K mg CB CC CF) : C8.Cal P w K mg base 4 "are_prices" sp_are_prices [] := by
  refine cal_of T.d_p_are_prices sc_p_are_prices (fun _ _ _ _ _ _ us hl => match us, hl with | [_], _ => rfl) (fun vs H Q E h => ?_) (fun cdv A outer f s H vs Q E hr h => ?_)
  · obtain ⟨d, bk, rfl, _⟩ := h
    rfl
  · obtain ⟨d, bk, rfl, hd, g, q⟩ := h
    have h3 : sizeLine = 16777216 := sizeLine_eq
    have h12 := g.le
    have h1 := g.ne
    refine ⟨_, (pss_cons (ps_if (PW.pt (pw_or (pt_not (pt_val (pe_callB (cr_isi (K := K) rfl) (by rfl) T.n_isinstance (by decide +kernel) (pa_cons (pv 0) (pa_cons (pe_bltn (v := .ty "dict") (u := .type "dict") (by rfl) T.n_dict (by decide +kernel) rfl) pa_nil))))) (pw_or1 (pt_not (pt_chain op_le op_le pe_int (pe_callB call_lenD (by rfl) T.n_len (by decide +kernel) (pa_cons (pv 0) pa_nil)) (C8.pe_gc (v := .int 12) (by rfl) (gi T.g_MAX_PIECES)))))))
    (pss_one (ps_ret pe_bl))
    pss_nil)
  (pss_cons (ps_if (pt_not (pt_val (pe_callB (cr_all rfl) (by rfl) T.n_all (by decide +kernel) (pa_cons (pe_lock (pe_lc (own := [("piece", 1), ("price", 3)]) rfl sc_p_are_prices.nd (pi_items (pv 0)) (blkOk_by (own := [("piece", 1), ("price", 3)]) (N := N_p_are_prices) (sc := (defScope s_p_are_prices)) (by decide +kernel)) (fun _ _ _ _ _ => (pg_tupK (K := K) (n := 2) rfl (by rfl) (pgs_cons (pg_name (i := 1) sc_p_are_prices.nd rfl (Or.inl rfl)) (pgs_cons (pg_name (i := 3) sc_p_are_prices.nd rfl (Or.inl rfl)) pgs_nil)))) (fun _ _ _ _ _ => pts_nil) (fun _ _ _ _ _ => (pe_and (C8.pe_c (c_p_is_piece T) hr (by decide) (by rfl) (pa_cons (pv 1) pa_nil)) (pe_one (C8.pe_c (c_p_is_price T) hr (by decide) (by rfl) (pa_cons (pv 3) pa_nil))))))) pa_nil))))
    (pss_one (ps_ret pe_bl))
    pss_nil)
  (pss_cons (ps_if (pt_cmpR op_gt (pe_callB call_len_seq (by rfl) T.n_len (by decide +kernel) (pa_cons (pe_lock (pe_lc (own := [("piece", 1)]) (g := gName 1) rfl sc_p_are_prices.nd (pi_keys (pv 0)) (blkOk_by (own := [("piece", 1)]) (N := N_p_are_prices) (sc := (defScope s_p_are_prices)) (by decide +kernel)) (fun _ _ _ _ _ => (pg_name (i := 1) sc_p_are_prices.nd rfl (Or.inl rfl))) (fun _ _ _ _ _ => (pts_one (pt_cmpR op_eq (pe_callB call_lenT (by rfl) T.n_len (by decide +kernel) (pa_cons (pv 1) pa_nil)) pe_int (nomark _)))) (fun _ _ _ _ _ => (pv 1)))) pa_nil)) (C8.pe_gc (v := .int 4) (by rfl) (gi T.g_MAX_ALPHABET)) (nomark _))
    (pss_one (ps_ret pe_bl))
    pss_nil)
  (pss_one (ps_ret (pe_callB (cr_all rfl) (by rfl) T.n_all (by decide +kernel) (pa_cons (pe_lock (pe_lc2 (own := [("piece", 1), ("sign", 2)]) (vs1 := [2]) (g := gName 1) (g1 := gName 2) rfl sc_p_are_prices.nd (pi_keys (pv 0)) (blkOk_by (own := [("piece", 1), ("sign", 2)]) (N := N_p_are_prices) (sc := (defScope s_p_are_prices)) (by decide +kernel)) (by decide) (fun _ _ _ _ _ => (pg_name (i := 1) sc_p_are_prices.nd rfl (Or.inl rfl))) (fun _ _ _ _ _ => pts_nil) (fun _ _ _ _ _ => (pi_str (pv 1))) (fun _ _ _ _ _ => (pg_name (i := 2) sc_p_are_prices.nd rfl (Or.inl rfl))) (fun _ _ _ _ _ => pts_nil) (fun _ _ _ _ _ => (pe_cmp (pc_din (hu1 hr) (pv 2) (pv 0)) rfl)))) pa_nil))))))), ?_⟩
    refine ⟨_, rfl, _, _, _, _, true, rfl, .ty _, .base (.dK hd), kit_ty (by decide +kernel), _, rfl, ?_⟩
    refine ⟨_, rfl, _, _, rfl, hd, _, _, rfl, rfl, _, rfl, iteT' (decide_eq_true (by rw [dV_length]; omega)) ⟨_, _, rfl, rfl, _, rfl, ?_⟩⟩
    rw [dV_length, decide_eq_true (show ((bk.length : Nat) : Int) ≤ 12 by omega)]
    have hfrz : ∀ od : Obj, Kp [d] H (upd H d (.frz od (.dK (dB bk)))) := fun od => (kp_refl H).up (.inr (by simp))
    -- the items
    refine ⟨d, _, hd, trivial, fun od => ⟨_, rfl, d, od, dB bk, rfl, upd_same, fun D hD => ?_⟩⟩
    have hDd : D ≠ d := by
      rintro rfl
      rw [upd_same] at hD
      cases hD
    have hD0 : H D = none := by rw [upd_ne hDd] at hD; exact hD
    refine lc_it (walk_items (d := d) (o := od) (kvs := dB bk)) (fun i H' => Kp [d] H H' ∧ H' d = some (.frz od (.dK (dB bk))) ∧ H' D = some (.lst (List.replicate i (.bl true)))) ?_ (fun i H' _ h => h.2.1) ?_ ?_
    · exact ⟨(hfrz od).up (.inl hD0), by rw [upd_ne hDd.symm, upd_same], upd_same⟩
    · rintro i x H1 H2 hi ⟨hk, hd1, hD1⟩ ⟨T1, y, z, rfl, hT, rfl, e1, e2⟩
      rw [dV_length] at hi
      have hpm : bk[i] ∈ bk := List.getElem_mem hi
      have e3 : y = tv bk[i].1 := by
        simp only [dB, dV, List.getElem?_map, List.getElem?_eq_getElem hi, Option.map_some, Option.some.injEq] at e1
        exact e1.symm
      have e4 : z = .int bk[i].2 := by
        simp only [dB, dV, List.getElem?_map, List.getElem?_eq_getElem hi, Option.map_some, Option.some.injEq] at e2
        exact e2.symm
      subst e3
      subst e4
      have hT0 : H T1 = none := by
        refine hk.free hT ?_
        rintro h
        rw [List.mem_singleton.mp h, hd1] at hT
        cases hT
      refine ⟨T1, _, rfl, SqT.of upd_same, rfl, _, _, rfl, _, _, rfl, rfl, ?_⟩
      refine ⟨rfl, _, rfl, _, rfl, g.lt _ hpm, (g.ln _ hpm).1, (g.ln _ hpm).2, fun H3 hk3 => ⟨_, rfl, _, rfl, _, rfl, (g.pr _ hpm).1, (g.pr _ hpm).2, ?_⟩⟩
      have hk4 : Kp [] H1 H3 := ((kp_refl H1).up (.inl hT)).trans hk3
      have hD3 := hk4 _ _ hD1 (by simp)
      refine ⟨_, hD3, ?_, ?_⟩
      · rw [List.length_replicate]
        omega
      · refine ⟨(hk.trans (hk4.any [d])).up (.inl hD0), ?_, ?_⟩
        · rw [upd_ne hDd.symm]
          exact hk4 _ _ hd1 (by simp)
        · rw [upd_same, List.replicate_succ']
    · rintro H1 ⟨hk, hd1, hD1⟩
      refine ⟨hd1, ?_⟩
      rw [dV_length] at hD1
      have hkA : Kp [] H (upd H1 d (.dK (dB bk))) := kp_unlock hd hk
      have hDA : upd H1 d (.dK (dB bk)) D = some (.lst (List.replicate bk.length (.bl true))) := by rw [upd_ne hDd]; exact hD1
      generalize upd H1 d (.dK (dB bk)) = H2 at hkA hDA
      refine ⟨D, List.replicate bk.length true, rfl, SqL.of (by rw [List.map_replicate]; exact hDA), _, rfl, ?_⟩
      rw [all_true]
      -- the single signs
      have hd2 := hkA _ _ hd (by simp)
      refine comp_keys bk (fun p => decide (p.1.length = 1)) (fun p => tv p.1) (fun H R h => ⟨_, rfl, h⟩) hd2 (by omega) ?_ ?_
      · intro od D hD hne p hp acc Nx hz h1 h2
        have := (g.ln p hp).2
        refine ⟨rfl, _, rfl, _, rfl, by omega, rfl, _, rfl, ite2 (fun hc => ?_) (fun hc => ?_)⟩
        · have e : p.1.length = 1 := by
            have := V.int.inj (of_decide_eq_true hc)
            omega
          exact ⟨_, rfl, acc, upd_same, hz, by rw [upd_upd]; exact h1 (decide_eq_true e)⟩
        · refine h2 (decide_eq_false fun e => ?_)
          rw [e] at hc
          exact absurd hc (by decide)
      · intro D2 hD2
        have hon := g.on
        have hkB : Kp [] H (upd H2 D2 (.lst ((bk.filter fun p => decide (p.1.length = 1)).map fun p => tv p.1))) := hkA.up (.inl (hkA.free hD2 (by simp)))
        refine ⟨_, _, rfl, .inl (SqL.of upd_same), _, _, rfl, rfl, _, rfl, ?_⟩
        refine iteF' (decide_eq_false (by rw [List.length_map]; omega)) ?_
        -- all signs
        generalize upd H2 D2 (.lst ((bk.filter fun p => decide (p.1.length = 1)).map fun p => tv p.1)) = H4 at hkB
        have hd4 := hkB _ _ hd (by simp)
        refine ⟨d, _, hd4, trivial, fun od => ⟨_, rfl, d, od, rfl, .inl ⟨_, upd_same, fun D hD => ?_⟩⟩⟩
        have hDd : D ≠ d := by
          rintro rfl
          rw [upd_same] at hD
          cases hD
        have hD0 : H4 D = none := by rw [upd_ne hDd] at hD; exact hD
        refine ⟨fun i m H' => m = bk.length - i ∧ i ≤ bk.length ∧ ∃ n, n ≤ 5 * i ∧ H' = upd (upd H4 d (.frz od (.dK (dB bk)))) D (.lst (List.replicate n (.bl true))), ⟨_, rfl, Nat.zero_le _, 0, Nat.le_refl _, rfl⟩, ?_⟩
        rintro i m H5 ⟨rfl, hi, n, hn, rfl⟩
        have frz : upd (upd H4 d (.frz od (.dK (dB bk)))) D (.lst (List.replicate n (.bl true))) d = some (.frz od (.dK (dB bk))) := by rw [upd_ne hDd.symm, upd_same]
        by_cases hlt : i < bk.length
        · refine .inr ⟨⟨frz, by rw [dV_length]; exact hlt⟩, fun H' => ∃ n, n ≤ 5 * (i + 1) ∧ H' = upd (upd H4 d (.frz od (.dK (dB bk)))) D (.lst (List.replicate n (.bl true))), fun H' h => ⟨bk.length - (i + 1), by omega, rfl, by omega, h⟩, ?_⟩
          rintro x H6 ⟨rfl, k0, v0, e1, rfl⟩
          have e2 : k0 = kx bk[i].1 := by
            simp only [dB, dV, List.getElem?_map, List.getElem?_eq_getElem hlt, Option.map_some, Option.some.injEq, Prod.mk.injEq] at e1
            exact e1.1.symm
          subst e2
          have hpm : bk[i] ∈ bk := List.getElem_mem hlt
          have hl5 := (g.ln _ hpm).2
          refine ⟨rfl, _, rfl, SX.S bk[i].1, rfl, ?_⟩
          refine ⟨fun j m H' => m = bk[i].1.length - j ∧ j ≤ bk[i].1.length ∧ ∃ n, n ≤ 5 * i + j ∧ H' = upd (upd H4 d (.frz od (.dK (dB bk)))) D (.lst (List.replicate n (.bl true))), ⟨_, rfl, Nat.zero_le _, n, by omega, rfl⟩, ?_⟩
          rintro j m2 H7 ⟨rfl, hj, n2, hn2, rfl⟩
          by_cases hlt2 : j < bk[i].1.length
          · refine .inr ⟨hlt2, fun H' => ∃ n, n ≤ 5 * i + (j + 1) ∧ H' = upd (upd H4 d (.frz od (.dK (dB bk)))) D (.lst (List.replicate n (.bl true))), fun H' h => ⟨bk[i].1.length - (j + 1), by omega, rfl, by omega, h⟩, ?_⟩
            rintro x H8 ⟨rfl, c, e3, rfl⟩
            have e4 : bk[i].1[j]? = some c := by simpa using e3
            have hin : [c] ∈ bk.map (·.1) := g.sg _ hpm c (List.mem_of_getElem? e4)
            have hg : (Option.map V.int (getA bk [c])).isSome = true := by rw [Option.isSome_map, getA_isSome]; exact decide_eq_true hin
            refine ⟨rfl, _, rfl, _, rfl, _, _, rfl, dget_frz (f := V.int) (H := H4) (acc := List.replicate n2 (.bl true)) hDd [c], List.replicate n2 (.bl true), upd_same, ?_, n2 + 1, by omega, ?_⟩
            · rw [List.length_replicate]
              omega
            · rw [upd_upd, hg, List.replicate_succ']
          · have e : j = bk[i].1.length := by omega
            exact .inl ⟨by show (SX.S bk[i].1).cps.size ≤ j; rw [e]; simp, n2, by omega, rfl⟩
        · have e : i = bk.length := by omega
          refine .inl ⟨⟨frz, by rw [dV_length, e]; exact Nat.le_refl _⟩, frz, ?_⟩
          rw [upd_lock hd4 hDd]
          refine ⟨D, List.replicate n true, rfl, SqL.of (by rw [List.map_replicate, upd_same]), ?_⟩
          show Q (.bl _) _
          rw [all_true]
          exact q _ (hkB.up (.inl (hkB.free hD0 (by simp))))
end
end K75
-- part P5
set_option Elab.async false
set_option linter.all false
set_option maxRecDepth 100000
set_option maxHeartbeats 4000000
namespace K75
open PySem PySem.Spec PyProof.Rows L2
/-- a dict comprehension over a list of different texts, without effects -/
theorem dc_texts {β : Type} {f : β → V} {K : PySem.W.Frag} {a : Addr} {g : TG} {tt : TT} {tk tz : TE} {vs : List Nat} {σ : L2.St} {H1 : Hp} {D : Addr} {Qd : Hp → Prop} (xs : List Tx0) (vf : Tx0 → β) (nd : xs.Nodup)
    (hG : ∀ kvs, SqL K (upd H1 D (.dK kvs)) a (xs.map tv)) (hz : xs.length < sizeLine)
    (hs : ∀ t ∈ xs, ∀ kvs (Nx : Hp → Prop), kvs.length < sizeLine → Nx (upd H1 D (.dK (putK kvs (kx t) (f (vf t))))) → g (tv t) (wipe σ vs) (upd H1 D (.dK kvs)) fun σ2 H2 => wipe σ2 vs = wipe σ vs ∧ tt σ2 H2 fun b H3 =>
      if b = true then tk σ2 H3 fun y H4 => tz σ2 H4 fun z H5 => ∃ kvs k, y = kV k ∧ H5 D = some (.dK kvs) ∧ kvs.length < sizeLine ∧ Nx (upd H5 D (.dK (putK kvs k z))) else Nx H3)
    (hd : Qd (upd H1 D (.dK (dV f (xs.map fun t => (t, vf t)))))) :
    ∃ W : Nat → Nat → Hp → Prop, (∃ m, W 0 m (upd H1 D (.dK []))) ∧ ∀ i m H, W i m H →
      ((Itl K a).stop i H ∧ Qd H) ∨ ((Itl K a).go i H ∧ ∃ Nx : Hp → Prop, (∀ H', Nx H' → ∃ m', m' < m ∧ W (i + 1) m' H') ∧ ∀ x H', (Itl K a).yld i H x H' → g x (wipe σ vs) H' fun σ2 H2 => wipe σ2 vs = wipe σ vs ∧ tt σ2 H2 fun b H3 =>
        if b = true then tk σ2 H3 fun y H4 => tz σ2 H4 fun z H5 => ∃ kvs k, y = kV k ∧ H5 D = some (.dK kvs) ∧ kvs.length < sizeLine ∧ Nx (upd H5 D (.dK (putK kvs k z))) else Nx H3) := by
  refine ⟨fun i m H => m = xs.length - i ∧ i ≤ xs.length ∧ H = upd H1 D (.dK (dV f ((xs.take i).map fun t => (t, vf t)))), ⟨_, rfl, Nat.zero_le _, rfl⟩, ?_⟩
  rintro i m H ⟨rfl, hi, rfl⟩
  have q := hG (dV f ((xs.take i).map fun t => (t, vf t)))
  by_cases hlt : i < xs.length
  · refine .inr ⟨⟨xs.map tv, tv xs[i], q, by simp [hlt]⟩, fun H => H = upd H1 D (.dK (dV f ((xs.take (i + 1)).map fun t => (t, vf t)))), fun H' h => ⟨xs.length - (i + 1), by omega, rfl, by omega, h⟩, ?_⟩
    rintro x H' ⟨rfl, y⟩
    have e : x = tv xs[i] := by
      have := y _ q
      rw [List.getElem?_map, List.getElem?_eq_getElem hlt] at this
      exact (Option.some.inj this).symm
    subst e
    refine hs xs[i] (List.getElem_mem hlt) _ _ ?_ ?_
    · rw [dV_length, List.length_map, List.length_take]
      omega
    · have hn : xs[i] ∉ ((xs.take i).map fun t => (t, vf t)).map (·.1) := by
        rw [List.map_map]
        have e2 : (xs.take i).map ((·.1) ∘ fun t => (t, vf t)) = xs.take i := by
          rw [show ((·.1) ∘ fun t : Tx0 => (t, vf t)) = id from rfl, List.map_id]
        rw [e2]
        have nd2 := nd
        rw [← List.take_append_drop i xs, List.drop_eq_getElem_cons hlt] at nd2
        exact fun h => (List.nodup_append.mp nd2).2.2 _ h _ (List.mem_cons_self ..) rfl
      rw [putK_dV, putA_new hn, List.take_add_one, List.getElem?_eq_getElem hlt, List.map_append]
      rfl
  · have e : i = xs.length := by omega
    subst e
    refine .inl ⟨⟨xs.map tv, q, by rw [List.length_map]; exact Nat.le_refl _⟩, ?_⟩
    rw [List.take_length]
    exact hd
theorem ones_of : ∀ l : List Tx0, ∃ ac : Tx0, l.filter (fun t => decide (t.length = 1)) = ac.map fun c => [c]
  | [] => ⟨[], rfl⟩
  | t :: l => by
    obtain ⟨ac, h⟩ := ones_of l
    by_cases e : t.length = 1
    · obtain ⟨c, rfl⟩ := one_of_len e
      exact ⟨c :: ac, by rw [List.filter_cons_of_pos (by simp), h]; rfl⟩
    · exact ⟨ac, by rw [List.filter_cons_of_neg (by simpa using e), h]⟩
section
variable {P : Program} {w : World} {K : PySem.W.Frag} {mg : Str → Option Value} {base : Heap} {CB CC CF : Addr}
def sp_Book (CB : Addr) : Sp := fun vs H Q _ => ∃ (a dx d : Addr) (bk : Bk), vs = [.ref a, .ref d] ∧ H a = some (.ins CB dx []) ∧ H d = some (.dK (dB bk)) ∧ GoodBook bk ∧
  ∀ (bl : Bk) (H' : Hp), bl.Perm bk → BookH CB H' a bl → Kp [a] H H' → Q .non H'
theorem c_Book (T : Ty K mg CB CC CF) : C8.Mak P w K mg base 5 "Book" CB (sp_Book CB) [] := by
  refine mak_of T.i_Book sc_p_Book___init__ (fun _ _ _ _ _ _ us hl => match us, hl with | [_, _], _ => rfl) (fun vs H Q E h => ?_) (fun cdv A outer f s H vs Q E hr h => ?_)
  · obtain ⟨a, dx, d, bk, rfl, _⟩ := h
    rfl
  · obtain ⟨a, dx, d, bk, rfl, ha, hd, g, k⟩ := h
    have h3 : sizeLine = 16777216 := sizeLine_eq
    refine ⟨_, (pss_cons (ps_if (pt_not (pt_val (C8.pe_c (c_p_are_prices T) hr (by decide) (by rfl) (pa_cons (pv 1) pa_nil))))
    (pss_one ps_never)
    pss_nil)
  (C8.pss_cut (ps_fld (pv 0) (pe_dc (own := [("piece", 2)]) (g := gName 2) rfl sc_p_Book___init__.nd (pi_list (pe_callB cr_sortedS (by rfl) T.n_sorted (by decide +kernel) (pa_cons (pe_callTy (call_listD rfl) (by rfl) T.n_list (by decide +kernel) (pa_cons (pv 1) pa_nil)) pa_nil))) (blkOk_by (own := [("piece", 2)]) (N := N_p_Book___init__) (sc := (defScope s_p_Book___init__)) (by decide +kernel)) (fun _ _ _ _ _ => (pg_name (i := 2) sc_p_Book___init__.nd rfl (Or.inl rfl))) (fun _ _ _ _ _ => pts_nil) (fun _ _ _ _ _ => (pv 2)) (fun _ _ _ _ _ => (pe_dget (hu1 hr) (pv 1) (pv 2) (fun _ _ => rfl)))) rfl)
  (C8.pss_cut (ps_fld (pv 0) (pe_callTy call_tuple_of (by rfl) T.n_tuple (by decide +kernel) (pa_cons (pe_callTy (call_listD rfl) (by rfl) T.n_list (by decide +kernel) (pa_cons (pe_fldK (K := K) rfl (pv 0)) pa_nil)) pa_nil)) rfl)
  (C8.pss_cut (ps_fld (pv 0) (pe_callTy call_tuple_of (by rfl) T.n_tuple (by decide +kernel) (pa_cons (pe_lc (own := [("piece", 2)]) (g := gName 2) rfl sc_p_Book___init__.nd (pi_tup (pe_fldK (K := K) rfl (pv 0))) (blkOk_by (own := [("piece", 2)]) (N := N_p_Book___init__) (sc := (defScope s_p_Book___init__)) (by decide +kernel)) (fun _ _ _ _ _ => (pg_name (i := 2) sc_p_Book___init__.nd rfl (Or.inl rfl))) (fun _ _ _ _ _ => (pts_one (pt_cmpR op_eq (pe_callB call_lenT (by rfl) T.n_len (by decide +kernel) (pa_cons (pv 2) pa_nil)) pe_int (nomark _)))) (fun _ _ _ _ _ => (pv 2))) pa_nil)) rfl)
  (C8.pss_cut (ps_fld (pv 0) (pe_callB (cr_max rfl) (by rfl) T.n_max (by decide +kernel) (pa_cons (pe_lc (own := [("piece", 2)]) (g := gName 2) rfl sc_p_Book___init__.nd (pi_tup (pe_fldK (K := K) rfl (pv 0))) (blkOk_by (own := [("piece", 2)]) (N := N_p_Book___init__) (sc := (defScope s_p_Book___init__)) (by decide +kernel)) (fun _ _ _ _ _ => (pg_name (i := 2) sc_p_Book___init__.nd rfl (Or.inl rfl))) (fun _ _ _ _ _ => pts_nil) (fun _ _ _ _ _ => (pe_callB call_lenT (by rfl) T.n_len (by decide +kernel) (pa_cons (pv 2) pa_nil)))) pa_nil)) rfl)
  (pss_one (ps_fld (pv 0) (pe_callB (cr_max rfl) (by rfl) T.n_max (by decide +kernel) (pa_cons (pe_listVals rfl (pe_fldK (K := K) rfl (pv 0)) (by rfl) T.n_list (by decide +kernel)) pa_nil)) rfl))))))), ?_⟩
    refine ⟨_, rfl, d, bk, rfl, hd, g, fun H1 hk1 => ⟨_, rfl, ?_⟩⟩
    have ha1 := hk1 _ _ ha (by simp)
    have hd1 := hk1 _ _ hd (by simp)
    -- own_prices
    refine ⟨fun σ' H' => ∃ (D : Addr) (bl : Bk) (x : Option V), σ' = [some (.ref a), some (.ref d), x] ∧ bl.Perm bk ∧ Srt (pcs bl) ∧ Kp [a] H H' ∧ H' a = some (.ins CB dx [("own_prices", .ref D)]) ∧ H' D = some (.dK (dB bl)), ?_, ?_⟩
    refine ⟨_, rfl, d, dB bk, rfl, .inl hd1, fun l hl => ?_⟩
    have hna : a ≠ l := ne_of_none ha1 hl
    have hkl : Kp [] H (upd H1 l (.lst ((dB bk).map fun kv => kV kv.1))) := hk1.up (.inl (hk1.free hl (by simp)))
    have hll : upd H1 l (.lst ((dB bk).map fun kv => kV kv.1)) l = some (.lst ((pcs bk).map tv)) := by
      rw [upd_same]
      simp only [dB, dV, List.map_map]
      rfl
    generalize upd H1 l (.lst ((dB bk).map fun kv => kV kv.1)) = H2 at hkl hll
    refine ⟨l, (pcs bk).map SX.S, rfl, SqL.of (by rw [hll]; simp only [List.map_map]; rfl), by rw [List.length_map, List.length_map]; have := g.le; omega, fun ys q hys hso hq => ?_⟩
    obtain ⟨ls, rfl, hls, hsr⟩ := perm_S hys hso
    have hkq : Kp [] H (upd H2 q (.lst ((ls.map SX.S).map V.str))) := hkl.up (.inl (hkl.free hq (by simp)))
    have hqq : upd H2 q (.lst ((ls.map SX.S).map V.str)) q = some (.lst (ls.map tv)) := by
      rw [upd_same, List.map_map]
      rfl
    generalize upd H2 q (.lst ((ls.map SX.S).map V.str)) = H3 at hkq hqq
    have hlsl : ls.length = bk.length := by
      have := hls.length_eq
      rw [List.length_map] at this
      exact this
    have hlsn : ls.Nodup := hls.nodup_iff.mpr g.nd
    refine ⟨q, rfl, ⟨_, SqL.of hqq⟩, fun D hD => ?_⟩
    have hD0 : H D = none := hkq.free hD (by simp)
    have hqD := ne_of_none hqq hD
    have had := ne_of_none (hkq _ _ ha (by simp)) hD
    have hdD := ne_of_none (hkq _ _ hd (by simp)) hD
    refine dc_texts (f := V.int) ls (fun t => (getA bk t).getD 0) hlsn (fun kvs => SqL.of (by rw [upd_ne hqD]; exact hqq)) (by have := g.le; omega) ?_ ?_
    · intro t ht kvs Nx hz nx
      obtain ⟨p, hp, ep⟩ := List.mem_map.mp (hls.mem_iff.mp ht)
      have hg := getA_mem g.nd (show (p.1, p.2) ∈ bk from hp)
      rw [ep] at hg
      refine ⟨rfl, _, rfl, _, rfl, _, rfl, d, .int p.2, rfl, ?_, kvs, kx t, rfl, upd_same, hz, ?_⟩
      · exact dget_S (f := V.int) (by rw [upd_ne hdD]; exact hkq _ _ hd (by simp)) hg
      · rw [upd_upd]
        rw [hg] at nx
        exact nx
    have hbl : (ls.map fun t => (t, (getA bk t).getD 0)).Perm bk := by
      have h5 := hls.map fun t => (t, (getA bk t).getD 0)
      have e : (pcs bk).map (fun t => (t, (getA bk t).getD 0)) = bk := by
        rw [List.map_map]
        conv => rhs; rw [← List.map_id bk]
        refine List.map_congr_left fun p hp => ?_
        have hg := getA_mem g.nd (show (p.1, p.2) ∈ bk from hp)
        show (p.1, (getA bk p.1).getD 0) = id p
        rw [hg]
        rfl
      rw [e] at h5
      exact h5
    have hpb : pcs (ls.map fun t => (t, (getA bk t).getD 0)) = ls := by
      rw [pcs, List.map_map]
      exact List.map_id ls
    generalize (ls.map fun t => (t, (getA bk t).getD 0)) = bl at hbl hpb
    have gl : GoodBook bl := g.perm hbl
    subst hpb
    have hkD : Kp [] H (upd H3 D (.dK (dV V.int bl))) := hkq.up (.inl hD0)
    have haD := hkD _ _ ha (by simp)
    refine ⟨_, rfl, a, CB, dx, [], rfl, haD, T.cl_Book, T.no_Book_own_prices, by decide, ?_⟩
    exact ⟨D, bl, _, rfl, hbl, hsr, (hkD.any [a]).up (.inr (by simp)), upd_same, by rw [upd_ne had.symm, upd_same]⟩
    -- own_pieces
    rintro σ' H4 ⟨D, bl, x, rfl, hbl, hsr, hk4, ha4, hD4⟩
    have gl : GoodBook bl := g.perm hbl
    have h12 := gl.le
    refine ⟨fun σ' H' => ∃ (p : Addr), σ' = [some (.ref a), some (.ref d), x] ∧ Kp [a] H H' ∧ H' a = some (.ins CB dx [("own_prices", .ref D), ("own_pieces", .ref p)]) ∧ H' D = some (.dK (dB bl)) ∧ H' p = some (.tup ((pcs bl).map tv)), ?_, ?_⟩
    · refine ⟨_, rfl, a, CB, dx, _, _, rfl, ha4, T.cl_Book, T.no_Book_own_prices, rfl, D, dB bl, rfl, .inl hD4, fun l2 hl2 => ?_⟩
      have na2 := ne_of_none ha4 hl2
      have nD2 := ne_of_none hD4 hl2
      have hl20 : H l2 = none := hk4.free hl2 (by simpa using na2.symm)
      refine ⟨l2, _, rfl, .inl ⟨SqL.of upd_same, fun p hp => ?_⟩⟩
      have nap : a ≠ p := ne_of_none (show upd H4 l2 _ a = some _ by rw [upd_ne na2]; exact ha4) hp
      have nDp : D ≠ p := ne_of_none (show upd H4 l2 _ D = some _ by rw [upd_ne nD2]; exact hD4) hp
      have hkp : Kp [a] H (upd H4 l2 (.lst ((dB bl).map fun kv => kV kv.1))) := hk4.up (.inl hl20)
      have hp0 : H p = none := hkp.free hp (by simpa using nap.symm)
      have naD : D ≠ a := by
        rintro rfl
        rw [ha4] at hD4
        cases hD4
      refine ⟨_, rfl, a, CB, dx, _, rfl, by rw [upd_ne nap, upd_ne na2]; exact ha4, T.cl_Book, T.no_Book_own_pieces, by simp, ?_⟩
      refine ⟨p, rfl, (hkp.up (.inl hp0)).up (.inr (by simp)), upd_same, ?_, ?_⟩
      · rw [upd_ne naD, upd_ne nDp, upd_ne nD2]
        exact hD4
      · rw [upd_ne nap.symm, upd_same]
        simp only [dB, dV, List.map_map]
        rfl
    rintro σ' H5 ⟨p, rfl, hk5, ha5, hD5, hp5⟩
    -- own_alphabet
    refine ⟨fun σ' H' => ∃ (al : Addr) (ac : Tx0), σ' = [some (.ref a), some (.ref d), x] ∧ Kp [a] H H' ∧ H' a = some (.ins CB dx [("own_prices", .ref D), ("own_pieces", .ref p), ("own_alphabet", .ref al)]) ∧ H' D = some (.dK (dB bl)) ∧ H' p = some (.tup ((pcs bl).map tv)) ∧ H' al = some (.tup (ac.map sg)) ∧ (∀ c, c ∈ ac ↔ [c] ∈ pcs bl) ∧ ac.length ≤ 12, ?_, ?_⟩
    · refine ⟨_, rfl, a, CB, dx, _, _, rfl, ha5, T.cl_Book, T.no_Book_own_pieces, rfl, p, rfl, ⟨_, SqT.of hp5⟩, fun E0 hE => ?_⟩
      have naE := ne_of_none ha5 hE
      have nDE := ne_of_none hD5 hE
      have npE := ne_of_none hp5 hE
      have hE0 : H E0 = none := hk5.free hE (by simpa using naE.symm)
      refine comp_tup (pcs bl) tv (fun t => decide (t.length = 1)) tv (fun acc => SqT.of (by rw [upd_ne npE]; exact hp5)) (by rw [List.length_map]; omega) ?_ ?_
      · intro t ht acc Nx hz h1 h2
        have := (pcs_len gl ht).2
        refine ⟨rfl, _, rfl, _, rfl, by omega, rfl, _, rfl, ite2 (fun hc => ?_) (fun hc => ?_)⟩
        · have e : t.length = 1 := by
            have := V.int.inj (of_decide_eq_true hc)
            omega
          exact ⟨_, rfl, acc, upd_same, hz, by rw [upd_upd]; exact h1 (decide_eq_true e)⟩
        · refine h2 (decide_eq_false fun e => ?_)
          rw [e] at hc
          exact absurd hc (by decide)
      · have hkE : Kp [a] H (upd H5 E0 (.lst (((pcs bl).filter fun t => decide (t.length = 1)).map tv))) := hk5.up (.inl hE0)
        refine ⟨E0, _, rfl, .inl ⟨SqL.of upd_same, fun al hal => ?_⟩⟩
        have naal : a ≠ al := ne_of_none (show upd H5 E0 _ a = some _ by rw [upd_ne naE]; exact ha5) hal
        have nDal : D ≠ al := ne_of_none (show upd H5 E0 _ D = some _ by rw [upd_ne nDE]; exact hD5) hal
        have npal : p ≠ al := ne_of_none (show upd H5 E0 _ p = some _ by rw [upd_ne npE]; exact hp5) hal
        have hal0 : H al = none := hkE.free hal (by simpa using naal.symm)
        have naD : D ≠ a := by
          rintro rfl
          rw [ha5] at hD5
          cases hD5
        have nap : p ≠ a := by
          rintro rfl
          rw [ha5] at hp5
          cases hp5
        obtain ⟨ac, hac⟩ : ∃ ac : Tx0, (pcs bl).filter (fun t => decide (t.length = 1)) = ac.map fun c => [c] := ones_of _
        refine ⟨_, rfl, a, CB, dx, _, rfl, by rw [upd_ne naal, upd_ne naE]; exact ha5, T.cl_Book, T.no_Book_own_alphabet, by simp, al, ac, rfl, (hkE.up (.inl hal0)).up (.inr (by simp)), upd_same, ?_, ?_, ?_, ?_, ?_⟩
        · rw [upd_ne naD, upd_ne nDal, upd_ne nDE]
          exact hD5
        · rw [upd_ne nap, upd_ne npal, upd_ne npE]
          exact hp5
        · rw [upd_ne naal.symm, upd_same, hac, List.map_map]
          rfl
        · intro c
          have h4 : c ∈ ac ↔ [c] ∈ ac.map fun c => [c] := by simp
          rw [h4, ← hac, List.mem_filter]
          exact ⟨fun h => h.1, fun h => ⟨h, rfl⟩⟩
        · have h5 := congrArg List.length hac
          have h6 := List.length_filter_le (fun t : Tx0 => decide (t.length = 1)) (pcs bl)
          rw [List.length_map] at h5 h6
          omega
    rintro σ' H6 ⟨al, ac, rfl, hk6, ha6, hD6, hp6, hal6, hac, hacl⟩
    have naD : D ≠ a := by
      rintro rfl
      rw [ha6] at hD6
      cases hD6
    have nap : p ≠ a := by
      rintro rfl
      rw [ha6] at hp6
      cases hp6
    have naal : al ≠ a := by
      rintro rfl
      rw [ha6] at hal6
      cases hal6
    -- own_longest
    refine ⟨fun σ' H' => ∃ (lg : Nat), σ' = [some (.ref a), some (.ref d), x] ∧ Kp [a] H H' ∧ H' a = some (.ins CB dx [("own_prices", .ref D), ("own_pieces", .ref p), ("own_alphabet", .ref al), ("own_longest", .int lg)]) ∧ H' D = some (.dK (dB bl)) ∧ H' p = some (.tup ((pcs bl).map tv)) ∧ H' al = some (.tup (ac.map sg)) ∧ (∀ t ∈ pcs bl, t.length ≤ lg) ∧ lg ≤ 5 ∧ 1 ≤ lg ∧ (∃ t ∈ pcs bl, t.length = lg), ?_, ?_⟩
    · refine ⟨_, rfl, a, CB, dx, _, _, rfl, ha6, T.cl_Book, T.no_Book_own_pieces, rfl, p, rfl, ⟨_, SqT.of hp6⟩, fun E0 hE => ?_⟩
      have naE := ne_of_none ha6 hE
      have nDE := ne_of_none hD6 hE
      have npE := ne_of_none hp6 hE
      have nalE := ne_of_none hal6 hE
      have hE0 : H E0 = none := hk6.free hE (by simpa using naE.symm)
      refine comp_tup (pcs bl) tv (fun _ => true) (fun t => .int (t.length : Int)) (fun acc => SqT.of (by rw [upd_ne npE]; exact hp6)) (by rw [List.length_map]; omega) ?_ ?_
      · intro t ht acc Nx hz h1 h2
        have := (pcs_len gl ht).2
        refine ⟨rfl, _, rfl, _, rfl, by omega, acc, upd_same, hz, by rw [upd_upd]; exact h1 rfl⟩
      · refine ⟨E0, (pcs bl).map fun t => (t.length : Int), rfl, SqL.of ?_, ?_, fun m hm hmax => ?_⟩
        · rw [upd_same, List.filter_eq_self.mpr fun _ _ => rfl]
          simp only [List.map_map]
          rfl
        · rw [List.length_map, List.length_map]
          exact gl.ne
        obtain ⟨t, ht, rfl⟩ := List.mem_map.mp hm
        have htl := pcs_len gl ht
        refine ⟨_, rfl, a, CB, dx, _, rfl, by rw [upd_ne naE]; exact ha6, T.cl_Book, T.no_Book_own_longest, by simp, t.length, rfl, (hk6.up (.inl hE0)).up (.inr (by simp)), upd_same, ?_, ?_, ?_, ?_, htl.2, htl.1, t, ht, rfl⟩
        · rw [upd_ne naD, upd_ne nDE]
          exact hD6
        · rw [upd_ne nap, upd_ne npE]
          exact hp6
        · rw [upd_ne naal, upd_ne nalE]
          exact hal6
        · intro u hu
          have := hmax _ (List.mem_map_of_mem (f := fun t : Tx0 => (t.length : Int)) hu)
          omega
    rintro σ' H7 ⟨lg, rfl, hk7, ha7, hD7, hp7, hal7, hlg, hlg5, hlg1, hlgm⟩
    -- own_dearest
    refine ⟨_, rfl, a, CB, dx, _, _, rfl, ha7, T.cl_Book, T.no_Book_own_prices, rfl, D, dB bl, rfl, hD7, fun q hq => ?_⟩
    have naq := ne_of_none ha7 hq
    have nDq := ne_of_none hD7 hq
    have npq := ne_of_none hp7 hq
    have nalq := ne_of_none hal7 hq
    have hq0 : H q = none := hk7.free hq (by simpa using naq.symm)
    refine ⟨q, bl.map (·.2), rfl, SqL.of ?_, ?_, fun m hm hmax => ?_⟩
    · rw [upd_same]
      simp only [dB, dV, List.map_map]
      rfl
    · rw [List.length_map]
      exact gl.ne
    refine ⟨_, rfl, a, CB, dx, _, rfl, by rw [upd_ne naq]; exact ha7, T.cl_Book, T.no_Book_own_dearest, by simp, ?_⟩
    refine k bl _ hbl ⟨dx, D, p, al, ac, lg, m, upd_same, ?_, ?_, ?_, hac, hacl, hlg, hlg5, hlg1, hlgm, gl, hsr⟩ ((hk7.up (.inl hq0)).up (.inr (by simp)))
    · rw [upd_ne naD, upd_ne nDq]
      exact hD7
    · rw [upd_ne nap, upd_ne npq]
      exact hp7
    · rw [upd_ne naal, upd_ne nalq]
      exact hal7
end
end K75
-- part P6
set_option Elab.async false
set_option linter.all false
set_option maxRecDepth 100000
set_option maxHeartbeats 4000000
namespace K75
open PySem PySem.Spec PyProof.Rows L2
abbrev dTx (ts : List Tx0) : List PyData := ts.map fun t => .str (SX.S t)
theorem texts_dp {K : PySem.W.Frag} {H : Hp} : ∀ ts : List Tx0, DpAll K H (ts.map tv) (dTx ts)
  | [] => .nil
  | t :: ts => .cons (.str _) (texts_dp ts)
theorem texts_lay : ∀ ts : List Tx0, (∀ t ∈ ts, Lt t) → PyData.canLayAll0 (dTx ts) = true ∧ PyData.depthAll (dTx ts) ≤ 1
  | [], _ => ⟨by simp only [dTx, List.map_nil, PyData.canLayAll0], by simp [dTx, PyData.depthAll]⟩
  | t :: ts, h => by
    obtain ⟨a, b⟩ := texts_lay ts fun u hu => h u (List.mem_cons_of_mem _ hu)
    refine ⟨?_, ?_⟩
    · show PyData.canLayAll0 (.str (SX.S t) :: dTx ts) = true
      simp only [PyData.canLayAll0, PyData.canLay0, lt_ok (h t (List.mem_cons_self ..)), Bool.true_and]
      exact a
    · show PyData.depthAll (.str (SX.S t) :: dTx ts) ≤ 1
      simp only [PyData.depthAll, PyData.depth]
      omega
theorem eqv_same {d : PyData} (h : d.canLay0 = true) : PyData.eqv d d = true := PySem.SeqAt.eqv_refl d h
theorem lay_list {ts : List Tx0} (h : ∀ t ∈ ts, Lt t) : (PyData.list (dTx ts)).canLay0 = true := by simp only [PyData.canLay0, (texts_lay ts h).1]
theorem shp_list {ts : List Tx0} (h : ∀ t ∈ ts, Lt t) : SeqAt.shaped (.list (dTx ts)) = true := shaped_list (texts_lay ts h).1 (by have := (texts_lay ts h).2; omega)
section
variable {P : Program} {w : World} {K : PySem.W.Frag} {mg : Str → Option Value} {base : Heap} {CB CC CF : Addr}
def sp_is_order (CB : Addr) : Sp := fun vs H Q _ => ∃ (a o : Addr) (bk : Bk) (od : List Tx0), vs = [.ref a, .ref o] ∧ BookH CB H a bk ∧ H o = some (.tup (od.map tv)) ∧ od.Perm (pcs bk) ∧ ∀ H', Kp [] H H' → Q (.bl true) H'
theorem c_p_is_order (T : Ty K mg CB CC CF) : C8.Cal P w K mg base 1 "is_order" (sp_is_order CB) [] := by
  refine cal_of T.d_p_is_order sc_p_is_order (fun _ _ _ _ _ _ us hl => match us, hl with | [_, _], _ => rfl) (fun vs H Q E h => ?_) (fun cdv A outer f s H vs Q E hr h => ?_)
  · obtain ⟨a, o, bk, od, rfl, _⟩ := h
    rfl
  · obtain ⟨a, o, bk, od, rfl, ⟨dx, d, p, al, ac, lg, de, b⟩, ho, hp, q⟩ := h
    have h3 : sizeLine = 16777216 := sizeLine_eq
    have g := b.g
    have h12 := g.le
    have hol := hp.length_eq
    rw [List.length_map] at hol
    refine ⟨_, (pss_cons (ps_if (PW.pt (pw_or (pt_not (pt_val (pe_callB (cr_isi (K := K) rfl) (by rfl) T.n_isinstance (by decide +kernel) (pa_cons (pv 1) (pa_cons (pe_bltn (v := .ty "tuple") (u := .type "tuple") (by rfl) T.n_tuple (by decide +kernel) rfl) pa_nil))))) (pw_or1 (pt_not (pt_val (pe_callB (cr_all rfl) (by rfl) T.n_all (by decide +kernel) (pa_cons (pe_lc (own := [("piece", 2)]) (g := gName 2) rfl sc_p_is_order.nd (pi_tup (pv 1)) (blkOk_by (own := [("piece", 2)]) (N := N_p_is_order) (sc := (defScope s_p_is_order)) (by decide +kernel)) (fun _ _ _ _ _ => (pg_name (i := 2) sc_p_is_order.nd rfl (Or.inl rfl))) (fun _ _ _ _ _ => pts_nil) (fun _ _ _ _ _ => (pe_callB (cr_isi (K := K) rfl) (by rfl) T.n_isinstance (by decide +kernel) (pa_cons (pv 2) (pa_cons (pe_bltn (v := .ty "str") (u := .type "str") (by rfl) T.n_str (by decide +kernel) rfl) pa_nil))))) pa_nil)))))))
    (pss_one (ps_ret pe_bl))
    pss_nil)
  (pss_one (ps_ret (pe_cmpR (op_eqD hr.units) (pe_callB cr_sortedTS (by rfl) T.n_sorted (by decide +kernel) (pa_cons (pv 1) pa_nil)) (pe_callTy call_list_of (by rfl) T.n_list (by decide +kernel) (pa_cons (pe_fldK (K := K) rfl (pv 0)) pa_nil)) (nomark _))))), ?_⟩
    refine ⟨_, rfl, _, _, _, _, true, rfl, .ty _, .base (.tup ho), kit_ty (by decide +kernel), _, rfl, ?_⟩
    refine ⟨_, rfl, o, rfl, ⟨_, SqT.of ho⟩, fun D hD => ?_⟩
    have noD := ne_of_none ho hD
    refine comp_tup od tv (fun _ => true) (fun _ => .bl true) (fun acc => SqT.of (by rw [upd_ne noD]; exact ho)) (by omega) ?_ ?_
    · intro t ht acc Nx hz h1 h2
      exact ⟨rfl, _, rfl, _, _, _, _, true, rfl, .ty _, .base (.str _), kit_ty (by decide +kernel), acc, upd_same, hz, by rw [upd_upd]; exact h1 rfl⟩
    · have hk1 : Kp [] H (upd H D (.lst ((od.filter fun _ => true).map fun _ => V.bl true))) := (kp_refl H).up (.inl hD)
      refine ⟨D, List.replicate od.length true, rfl, SqL.of ?_, _, rfl, ?_⟩
      · rw [upd_same, List.filter_eq_self.mpr fun _ _ => rfl, List.map_replicate, List.map_const']
      rw [all_true]
      generalize upd H D (.lst ((od.filter fun _ => true).map fun _ => V.bl true)) = H1 at hk1
      have b1 := b.kp0 hk1
      have ho1 := hk1 _ _ ho (by simp)
      refine ⟨_, rfl, o, od.map SX.S, rfl, SqT.of (by rw [ho1]; simp only [List.map_map]; rfl), by rw [List.length_map]; omega, fun ys r hys hso hr1 => ?_⟩
      obtain ⟨ls, rfl, hls, hsr⟩ := perm_S hys hso
      have els : ls = pcs bk := srt_eq hsr b.so (hls.trans hp)
      subst els
      have hk2 : Kp [] H (upd H1 r (.lst (((pcs bk).map SX.S).map V.str))) := hk1.up (.inl (hk1.free hr1 (by simp)))
      have b2 := b.kp0 hk2
      refine ⟨_, rfl, _, _, _, _, _, rfl, b2.ha, T.cl_Book, T.no_Book_own_pieces, rfl, p, _, rfl, .inr (SqT.of b2.hp), fun l hl => ?_⟩
      have nrl : r ≠ l := ne_of_none upd_same hl
      have hlt : ∀ t ∈ pcs bk, Lt t := fun t ht => ov_lt g (pcs_ov g ht)
      refine ⟨.list (dTx (pcs bk)), .list (dTx (pcs bk)), .lst (SqL.of ?_) (texts_dp _), .lst (SqL.of upd_same) (texts_dp _), shp_list hlt, shp_list hlt, ?_⟩
      · rw [upd_ne nrl, upd_same, List.map_map]
        rfl
      · show Q (.bl _) _
        rw [eqv_same (lay_list hlt)]
        exact q _ (hk2.up (.inl (hk2.free hl (by simp))))
end
end K75
-- part P7
set_option Elab.async false
set_option linter.all false
set_option maxRecDepth 100000
set_option maxHeartbeats 4000000
namespace K75
open PySem PySem.Spec PyProof.Rows L2
theorem getA_perm {β : Type} {m m' : List (Tx0 × β)} (h : m.Perm m') (nd : (m'.map (·.1)).Nodup) (k : Tx0) : getA m k = getA m' k := by
  have nd2 : (m.map (·.1)).Nodup := (h.map _).nodup_iff.mpr nd
  cases e : getA m' k with
  | none =>
    rw [getA_none] at e ⊢
    exact fun z => e ((h.map _).mem_iff.mp z)
  | some v => exact getA_mem nd2 (h.mem_iff.mpr (getA_some e))
theorem BookAt.kpd {CB : Addr} {H H' : Hp} {a dx d0 p al d : Addr} {bk : Bk} {ac : Tx0} {lg : Nat} {de : Int} {m : Tb} (b : BookAt CB H a bk dx d0 p al ac lg de) (k : Kp [d] H H') (hd : H d = some (.dK (dV tv m))) : BookAt CB H' a bk dx d0 p al ac lg de := by
  refine ⟨k _ _ b.ha fun z => ?_, k _ _ b.hd fun z => ?_, k _ _ b.hp fun z => ?_, k _ _ b.hl fun z => ?_, b.hac, b.hal, b.hlg, b.hlg5, b.hlg1, b.hlgm, b.g, b.so⟩
  · have := b.ha
    rw [List.mem_singleton.mp z, hd] at this
    cases this
  · have h1 := b.hd
    rw [List.mem_singleton.mp z, hd] at h1
    injection h1 with h1
    injection h1 with h1
    have h2 := b.g.ne
    cases e : bk with
    | nil => rw [e] at h2; cases h2
    | cons p bk =>
      rw [e] at h1
      cases m with
      | nil => cases h1
      | cons q m =>
        injection h1 with h1 _
        injection h1 with _ h1
        cases h1
  · have := b.hp
    rw [List.mem_singleton.mp z, hd] at this
    cases this
  · have := b.hl
    rw [List.mem_singleton.mp z, hd] at this
    cases this
section
variable {P : Program} {w : World} {K : PySem.W.Frag} {mg : Str → Option Value} {base : Heap} {CB CC CF : Addr}
def sp_is_table (CB : Addr) : Sp := fun vs H Q _ => ∃ (a d : Addr) (bk : Bk) (n : Nat) (m : Tb), vs = [.ref a, .ref d, .int n] ∧ BookH CB H a bk ∧ H d = some (.dK (dV tv m)) ∧ GoodTb bk n m ∧ n ≤ 2000 ∧ ∀ H', Kp [] H H' → Q (.bl true) H'
theorem c_p_is_table (T : Ty K mg CB CC CF) : C8.Cal P w K mg base 5 "is_table" (sp_is_table CB) [] := by
  refine cal_of T.d_p_is_table sc_p_is_table (fun _ _ _ _ _ _ us hl => match us, hl with | [_, _, _], _ => rfl) (fun vs H Q E h => ?_) (fun cdv A outer f s H vs Q E hr h => ?_)
  · obtain ⟨a, d, bk, n, m, rfl, _⟩ := h
    rfl
  · obtain ⟨a, d, bk, n, m, rfl, ⟨dx, d0, p0, al, ac, lg, de, b⟩, hd, gt, hn, q⟩ := h
    have h3 : sizeLine = 16777216 := sizeLine_eq
    have g := b.g
    have hml := gt.le
    refine ⟨_, (pss_cons (ps_if (PW.pt (pw_or (pt_not (pt_val (pe_callB (cr_isi (K := K) rfl) (by rfl) T.n_isinstance (by decide +kernel) (pa_cons (pv 1) (pa_cons (pe_bltn (v := .ty "dict") (u := .type "dict") (by rfl) T.n_dict (by decide +kernel) rfl) pa_nil))))) (pw_or1 (pt_cmpR op_gt (pe_callB call_lenD (by rfl) T.n_len (by decide +kernel) (pa_cons (pv 1) pa_nil)) (C8.pe_gc (v := .int 2000) (by rfl) (gi T.g_MAX_WINDOWS)) (nomark _)))))
    (pss_one (ps_ret pe_bl))
    pss_nil)
  (pss_cons (ps_lock (ps_for PassesOwn.never rfl (pi_items (pv 1)) (pg_tupK (K := K) (n := 2) rfl (by rfl) (pgs_cons (pg_name (i := 3) sc_p_is_table.nd rfl (Or.inl rfl)) (pgs_cons (pg_name (i := 4) sc_p_is_table.nd rfl (Or.inl rfl)) pgs_nil)))
    (pss_cons (ps_if (PW.pt (pw_or (pt_not (pt_val (C8.pe_mt (c_Book_accepts T) hr (by decide) (pv 0) (pa_cons (pv 3) pa_nil)))) (pw_or1 (pt_not (pt_chain op_le op_le pe_int (pe_callB call_lenT (by rfl) T.n_len (by decide +kernel) (pa_cons (pv 3) pa_nil)) (pv 2))))))
      (pss_one (ps_ret pe_bl))
      pss_nil)
    (pss_one (ps_if (PW.pt (pw_or (pt_not (pt_val (pe_callB (cr_isi (K := K) rfl) (by rfl) T.n_isinstance (by decide +kernel) (pa_cons (pv 4) (pa_cons (pe_bltn (v := .ty "str") (u := .type "str") (by rfl) T.n_str (by decide +kernel) rfl) pa_nil))))) (pw_or (pt_cmp (pc_dnotin (hu1 hr) (pv 4) (pe_fldK (K := K) rfl (pv 0)))) (pw_or1 (pt_not (pt_val (pe_m1 PySem.F.slot_str_startswith PySem.F.type_str_startswith mt_startswith (pv 3) (pv 4))))))))
      (pss_one (ps_ret pe_bl))
      pss_nil)))))
  (pss_one (ps_ret pe_bl)))), ?_⟩
    refine ⟨_, rfl, _, _, _, _, true, rfl, .ty _, .base (.dK hd), kit_ty (by decide +kernel), _, rfl, ?_⟩
    refine ⟨_, rfl, _, _, rfl, hd, _, _, rfl, rfl, _, rfl, iteF' (decide_eq_false (by rw [dV_length]; omega)) ?_⟩
    refine ⟨d, _, hd, trivial, fun od => ⟨_, rfl, d, od, dV tv m, rfl, upd_same, ?_⟩⟩
    refine for_it (walk_items (d := d) (o := od) (kvs := dV tv m)) (fun i σ' H' => ∃ x y : Option V, σ' = [some (.ref a), some (.ref d), some (.int (n : Int)), x, y] ∧ Kp [d] H H' ∧ H' d = some (.frz od (.dK (dV tv m)))) ⟨none, none, rfl, (kp_refl H).up (.inr (by simp)), upd_same⟩ (fun i σ H' _ ⟨_, _, _, _, h⟩ => h) ?_ ?_
    · rintro i x σ H1 H2 hi ⟨x3, x4, rfl, hk, hd1⟩ ⟨T1, y, z, rfl, hT, rfl, e1, e2⟩
      rw [dV_length] at hi
      have hpm : m[i] ∈ m := List.getElem_mem hi
      have e3 : y = tv m[i].1 := by
        simp only [dV, List.getElem?_map, List.getElem?_eq_getElem hi, Option.map_some, Option.some.injEq] at e1
        exact e1.symm
      have e4 : z = tv m[i].2 := by
        simp only [dV, List.getElem?_map, List.getElem?_eq_getElem hi, Option.map_some, Option.some.injEq] at e2
        exact e2.symm
      subst e3
      subst e4
      have hT0 : H T1 = none := by
        refine hk.free hT ?_
        rintro h
        rw [List.mem_singleton.mp h, hd1] at hT
        cases hT
      refine ⟨T1, _, rfl, SqT.of upd_same, rfl, _, _, rfl, _, _, rfl, rfl, ?_⟩
      have hlen := gt.ln _ hpm
      have hk2 : Kp [d] H (upd H1 T1 (.tup [tv m[i].1, tv m[i].2])) := hk.up (.inl hT0)
      have hd2 : upd H1 T1 (.tup [tv m[i].1, tv m[i].2]) d = some (.frz od (.dK (dV tv m))) := by
        rw [upd_ne (ne_of_none hd1 hT)]
        exact hd1
      generalize upd H1 T1 (.tup [tv m[i].1, tv m[i].2]) = H2 at hk2 hd2
      have b2 := b.kpd hk2 hd
      refine ⟨_, rfl, a, dx, _, rfl, b2.ha, rfl, _, rfl, a, bk, m[i].1, rfl, ⟨dx, d0, p0, al, ac, lg, de, b2⟩, gt.ov _ hpm, by omega, fun H3 hk3 => ⟨_, rfl, ?_⟩⟩
      have b3 := b2.kp0 hk3
      have hd3 := hk3 _ _ hd2 (by simp)
      have hin : m[i].2 ∈ pcs bk := gt.pc _ hpm
      have hg : (!(Option.map V.int (getA bk m[i].2)).isSome) = false := by rw [Option.isSome_map, getA_isSome, decide_eq_true hin]; rfl
      refine ⟨_, rfl, _, rfl, by omega, _, _, rfl, rfl, _, rfl, iteT' (decide_eq_true (by omega)) ⟨_, rfl, _, _, rfl, rfl, _, rfl, ?_⟩⟩
      rw [decide_eq_true (show ((m[i].1.length : Nat) : Int) ≤ (n : Int) by omega)]
      refine ⟨_, rfl, _, _, _, _, true, rfl, .ty _, .base (.str _), kit_ty (by decide +kernel), _, rfl, ?_⟩
      refine ⟨_, rfl, _, rfl, _, _, _, _, _, rfl, b3.ha, T.cl_Book, T.no_Book_own_prices, rfl, _, _, rfl, dget_A b3.hd _, _, rfl, iteF' hg ?_⟩
      refine ⟨_, rfl, ⟨_, rfl⟩, _, rfl, _, _, rfl, rfl, _, rfl, ?_⟩
      rw [starts_S, gt.bg _ hpm]
      exact ⟨_, _, rfl, hk2.trans (hk3.any [d]), hd3⟩
    · rintro σ H1 ⟨x3, x4, rfl, hk, hd1⟩
      exact ⟨hd1, q _ (kp_unlock hd hk)⟩
end
end K75
-- part P8
set_option Elab.async false
set_option linter.all false
set_option maxRecDepth 100000
set_option maxHeartbeats 4000000
namespace K75
open PySem PySem.Spec PyProof.Rows L2
/-! ### a cutter -/
def CutO (CC dx ab o tb en sz : Addr) (n : Nat) : HO := .ins CC dx [("own_book", .ref ab), ("own_order", .ref o), ("own_view", .int n), ("own_table", .ref tb), ("own_ends", .ref en), ("own_sizes", .ref sz)]
structure CutAt (CB CC : Addr) (H : Hp) (a : Addr) (bk : Bk) (pl : Pl) (dx ab o tb en sz : Addr) (rw la : Tb) (ns : List Int) : Prop where
  ha : H a = some (CutO CC dx ab o tb en sz pl.span)
  hb : BookH CB H ab bk
  ho : H o = some (.tup (pl.order.map tv))
  ht : H tb = some (.dK (dV tv rw))
  he : H en = some (.dK (dV tv la))
  hz : H sz = some (.tup (ns.map V.int))
  hpr : rw.Perm pl.rows
  hpl : la.Perm pl.last
  up : ns.Pairwise (· < ·)
  mem : ∀ k : Int, k ∈ ns ↔ ∃ p ∈ pl.rows, k = p.1.length
  len : ns.length ≤ 3
  gp : GoodPl bk pl
def CutH (CB CC : Addr) (H : Hp) (a : Addr) (bk : Bk) (pl : Pl) : Prop := ∃ dx ab o tb en sz rw la ns, CutAt CB CC H a bk pl dx ab o tb en sz rw la ns
section
variable {CB CC CF : Addr} {H H' : Hp} {a : Addr} {bk : Bk} {pl : Pl} {D : List Addr} {dx ab o tb en sz : Addr} {rw la : Tb} {ns : List Int}
theorem CutAt.kp (h : CutAt CB CC H a bk pl dx ab o tb en sz rw la ns) (k : Kp D H H') (v : VolAt CF H D) (n : CB ≠ CF) (n2 : CC ≠ CF) : CutAt CB CC H' a bk pl dx ab o tb en sz rw la ns :=
  ⟨k.vol v h.ha (nv_ins n2), h.hb.kp k v n, k.vol v h.ho nv_tup, k.vol v h.ht nv_dK, k.vol v h.he nv_dK, k.vol v h.hz nv_tup, h.hpr, h.hpl, h.up, h.mem, h.len, h.gp⟩
theorem CutH.kp (h : CutH CB CC H a bk pl) (k : Kp D H H') (v : VolAt CF H D) (n : CB ≠ CF) (n2 : CC ≠ CF) : CutH CB CC H' a bk pl := by
  obtain ⟨dx, ab, o, tb, en, sz, rw, la, ns, h⟩ := h
  exact ⟨dx, ab, o, tb, en, sz, rw, la, ns, h.kp k v n n2⟩
theorem CutAt.kp0 (h : CutAt CB CC H a bk pl dx ab o tb en sz rw la ns) (k : Kp [] H H') : CutAt CB CC H' a bk pl dx ab o tb en sz rw la ns :=
  ⟨k _ _ h.ha (by simp), h.hb.kp0 k, k _ _ h.ho (by simp), k _ _ h.ht (by simp), k _ _ h.he (by simp), k _ _ h.hz (by simp), h.hpr, h.hpl, h.up, h.mem, h.len, h.gp⟩
theorem CutH.kp0 (h : CutH CB CC H a bk pl) (k : Kp [] H H') : CutH CB CC H' a bk pl := by
  obtain ⟨dx, ab, o, tb, en, sz, rw, la, ns, h⟩ := h
  exact ⟨dx, ab, o, tb, en, sz, rw, la, ns, h.kp0 k⟩
end
theorem tb_dict {m ls : List (Tx0 × Tx0)} {ks : List Tx0} (nd : (m.map (·.1)).Nodup) (hp : ks.Perm (m.map (·.1))) : (ks.map fun t => (t, (getA m t).getD [])).Perm m := by
  have h5 := hp.map fun t => (t, (getA m t).getD [])
  have e : (m.map (·.1)).map (fun t => (t, (getA m t).getD [])) = m := by
    rw [List.map_map]
    conv => rhs; rw [← List.map_id m]
    refine List.map_congr_left fun p hp => ?_
    have hg := getA_mem nd (show (p.1, p.2) ∈ m from hp)
    show (p.1, (getA m p.1).getD []) = id p
    rw [hg]
    rfl
  rw [e] at h5
  exact h5
/-- the view, the table, the ends as they are given -/
def GivV (bk : Bk) (v : V) (n : Nat) : Prop := v = .int n ∨ v = .non ∧ (∀ t ∈ pcs bk, t.length ≤ n) ∧ ∃ t ∈ pcs bk, t.length = n
def GivT (H : Hp) (v : V) (m : Tb) : Prop := (∃ d, v = .ref d ∧ H d = some (.dK (dV tv m))) ∨ v = .non ∧ m = []
theorem GivT.kp {H H' : Hp} {v : V} {m : Tb} (h : GivT H v m) (k : Kp [] H H') : GivT H' v m := by
  rcases h with ⟨d, e, h⟩ | h
  · exact .inl ⟨d, e, k _ _ h (by simp)⟩
  · exact .inr h
theorem srtS {l : List Str} {m : List Tx0} (h : l = m.map SX.S) (s : sortedS l = true) : Srt m := by unfold Srt; rw [← h]; exact s
section
variable {P : Program} {w : World} {K : PySem.W.Frag} {mg : Str → Option Value} {base : Heap} {CB CC CF : Addr}
def sp_Cutter (CB CC : Addr) : Sp := fun vs H Q _ => ∃ (a dx b o : Addr) (vv vt ve : V) (bk : Bk) (pl : Pl), vs = [.ref a, .ref b, .ref o, vv, vt, ve] ∧ H a = some (.ins CC dx []) ∧ BookH CB H b bk ∧ H o = some (.tup (pl.order.map tv)) ∧ GoodPl bk pl ∧
  GivV bk vv pl.span ∧ GivT H vt pl.rows ∧ GivT H ve pl.last ∧ ∀ H', CutH CB CC H' a bk pl → Kp [a] H H' → Q .non H'
theorem b_Cutter (T : Ty K mg CB CC CF) : BodyOk P w K mg base "Cutter.__init__" s_p_Cutter___init__ N_p_Cutter___init__ 5 (sp_Cutter CB CC) := by
  intro cdv A outer f s H vs Q E hr h
  obtain ⟨a, dx, b, o, vv, vt, ve, bk, pl, rfl, ha, hb, ho, gp, gv, g1, g2, k⟩ := h
  have h3 : sizeLine = 16777216 := sizeLine_eq
  refine ⟨_, (pss_cons (ps_expr (C8.pe_c (c_p_require_book T) hr (by decide) (by rfl) (pa_cons (pv 1) pa_nil)))
  (C8.pss_cut (ps_set (i := 3) sc_p_Cutter___init__.nd rfl (Or.inl rfl) (pe_ifExp (pt_cmpR op_isN (pv 3) pe_non (nomark _)) (pe_fldK (K := K) rfl (pv 1)) (pv 3)))
  (C8.pss_cut (ps_set (i := 4) sc_p_Cutter___init__.nd rfl (Or.inr rfl) (pe_ifExp (pt_cmpR op_isN (pv 4) pe_non (nomark _)) pe_dnewK (pv 4)))
  (C8.pss_cut (ps_set (i := 5) sc_p_Cutter___init__.nd rfl (Or.inr rfl) (pe_ifExp (pt_cmpR op_isN (pv 5) pe_non (nomark _)) pe_dnewK (pv 5)))
  (C8.pss_cut (ps_if (PW.pt (pw_or (pt_not (pt_val (C8.pe_c (c_p_is_order T) hr (by decide) (by rfl) (pa_cons (pv 1) (pa_cons (pv 2) pa_nil))))) (pw_or1 (pt_not (pt_val (C8.pe_c (c_p_is_view T) hr (by decide) (by rfl) (pa_cons (pv 3) pa_nil)))))))
    (pss_one ps_never)
    pss_nil)
  (C8.pss_cut (ps_if (PW.pt (pw_or (pt_not (pt_val (C8.pe_c (c_p_is_table T) hr (by decide) (by rfl) (pa_cons (pv 1) (pa_cons (pv 4) (pa_cons (pv 3) pa_nil)))))) (pw_or1 (pt_not (pt_val (C8.pe_c (c_p_is_table T) hr (by decide) (by rfl) (pa_cons (pv 1) (pa_cons (pv 5) (pa_cons (pe_op op_sub (pv 3) pe_int) pa_nil)))))))))
    (pss_one ps_never)
    pss_nil)
  (C8.pss_cut (ps_fld (pv 0) (pv 1) rfl)
  (C8.pss_cut (ps_fld (pv 0) (pv 2) rfl)
  (C8.pss_cut (ps_fld (pv 0) (pv 3) rfl)
  (C8.pss_cut (ps_fld (pv 0) (pe_dc (own := [("text", 6)]) (g := gName 6) rfl sc_p_Cutter___init__.nd (pi_list (pe_callB (call_sortedD rfl) (by rfl) T.n_sorted (by decide +kernel) (pa_cons (pv 4) pa_nil))) (blkOk_by (own := [("text", 6)]) (N := N_p_Cutter___init__) (sc := (defScope s_p_Cutter___init__)) (by decide +kernel)) (fun _ _ _ _ _ => (pg_name (i := 6) sc_p_Cutter___init__.nd rfl (Or.inl rfl))) (fun _ _ _ _ _ => pts_nil) (fun _ _ _ _ _ => (pv 6)) (fun _ _ _ _ _ => (pe_dget (hu1 hr) (pv 4) (pv 6) (fun _ _ => rfl)))) rfl)
  (C8.pss_cut (ps_fld (pv 0) (pe_dc (own := [("text", 6)]) (g := gName 6) rfl sc_p_Cutter___init__.nd (pi_list (pe_callB (call_sortedD rfl) (by rfl) T.n_sorted (by decide +kernel) (pa_cons (pv 5) pa_nil))) (blkOk_by (own := [("text", 6)]) (N := N_p_Cutter___init__) (sc := (defScope s_p_Cutter___init__)) (by decide +kernel)) (fun _ _ _ _ _ => (pg_name (i := 6) sc_p_Cutter___init__.nd rfl (Or.inl rfl))) (fun _ _ _ _ _ => pts_nil) (fun _ _ _ _ _ => (pv 6)) (fun _ _ _ _ _ => (pe_dget (hu1 hr) (pv 5) (pv 6) (fun _ _ => rfl)))) rfl)
  (pss_one (ps_fld (pv 0) (pe_callTy call_tuple_of (by rfl) T.n_tuple (by decide +kernel) (pa_cons (pe_callB (cr_sortedSet rfl) (by rfl) T.n_sorted (by decide +kernel) (pa_cons (pe_lock (pe_si (own := [("text", 6)]) (g := gName 6) rfl sc_p_Cutter___init__.nd (pi_keys (pv 4)) (blkOk_by (own := [("text", 6)]) (N := N_p_Cutter___init__) (sc := (defScope s_p_Cutter___init__)) (by decide +kernel)) (fun _ _ _ _ _ => (pg_name (i := 6) sc_p_Cutter___init__.nd rfl (Or.inl rfl))) (fun _ _ _ _ _ => pts_nil) (fun _ _ _ _ _ => (pe_callB call_lenT (by rfl) T.n_len (by decide +kernel) (pa_cons (pv 6) pa_nil))))) pa_nil)) pa_nil)) rfl))))))))))))), ?_⟩
  obtain ⟨dxb, d0, p0, al, ac, lg, de, b0⟩ := hb
  refine ⟨_, rfl, b, dxb, _, rfl, b0.ha, ?_⟩
  -- view
  refine ⟨fun σ' H' => σ' = [some (.ref a), some (.ref b), some (.ref o), some (.int pl.span), some vt, some ve, none] ∧ H = H', ?_, ?_⟩
  · rcases gv with rfl | ⟨rfl, v1, t0, ht0, et0⟩
    · exact ⟨_, rfl, rfl, _, rfl, iteF' rfl ⟨_, rfl, rfl, rfl⟩⟩
    · refine ⟨_, rfl, rfl, _, rfl, iteT' rfl ⟨_, rfl, _, _, _, _, _, rfl, b0.ha, T.cl_Book, T.no_Book_own_longest, rfl, ?_, rfl⟩⟩
      have e : lg = pl.span := by
        obtain ⟨t1, ht1, et1⟩ := b0.hlgm
        have h4 := b0.hlg t0 ht0
        have h5 := v1 t1 ht1
        omega
      rw [e]
      rfl
  rintro σ' H' ⟨rfl, rfl⟩
  -- table
  refine ⟨fun σ' H' => ∃ d, σ' = [some (.ref a), some (.ref b), some (.ref o), some (.int pl.span), some (.ref d), some ve, none] ∧ Kp [] H H' ∧ H' d = some (.dK (dV tv pl.rows)), ?_, ?_⟩
  · rcases g1 with ⟨d, rfl, hd⟩ | ⟨rfl, e⟩
    · exact ⟨_, rfl, rfl, _, rfl, iteF' rfl ⟨_, rfl, d, rfl, kp_refl H, hd⟩⟩
    · exact ⟨_, rfl, rfl, _, rfl, iteT' rfl fun d hd => ⟨d, rfl, (kp_refl H).up (.inl hd), by rw [upd_same, e]; rfl⟩⟩
  rintro σ' H1 ⟨dt, rfl, hk1, ht1⟩
  have g3 := g2.kp hk1
  -- ends
  refine ⟨fun σ' H' => ∃ d, σ' = [some (.ref a), some (.ref b), some (.ref o), some (.int pl.span), some (.ref dt), some (.ref d), none] ∧ Kp [] H H' ∧ H' dt = some (.dK (dV tv pl.rows)) ∧ H' d = some (.dK (dV tv pl.last)), ?_, ?_⟩
  · rcases g3 with ⟨d, rfl, hd⟩ | ⟨rfl, e⟩
    · exact ⟨_, rfl, rfl, _, rfl, iteF' rfl ⟨_, rfl, d, rfl, hk1, ht1, hd⟩⟩
    · exact ⟨_, rfl, rfl, _, rfl, iteT' rfl fun d hd => ⟨d, rfl, hk1.up (.inl (hk1.free hd (by simp))), by rw [upd_ne (ne_of_none ht1 hd)]; exact ht1, by rw [upd_same, e]; rfl⟩⟩
  rintro σ' H2 ⟨dl, rfl, hk2, ht2, hl2⟩
  have b2 := b0.kp0 hk2
  -- the tests
  refine ⟨fun σ' H' => σ' = [some (.ref a), some (.ref b), some (.ref o), some (.int pl.span), some (.ref dt), some (.ref dl), none] ∧ Kp [] H2 H', ?_, ?_⟩
  · refine ⟨_, rfl, _, rfl, b, o, bk, pl.order, rfl, ⟨_, _, _, _, _, _, _, b2⟩, hk2 _ _ ho (by simp), gp.od, fun H3 hk3 => ⟨_, rfl, ?_⟩⟩
    have hs1 := gp.s1
    have hs2 := gp.s2
    exact ⟨_, rfl, (pl.span : Int), rfl, by omega, by omega, _, rfl, rfl, hk3⟩
  rintro σ' H3 ⟨rfl, hk3⟩
  refine ⟨fun σ' H' => σ' = [some (.ref a), some (.ref b), some (.ref o), some (.int pl.span), some (.ref dt), some (.ref dl), none] ∧ Kp [] H2 H', ?_, ?_⟩
  · have b3 := b2.kp0 hk3
    refine ⟨_, rfl, _, rfl, _, rfl, b, dt, bk, pl.span, pl.rows, rfl, ⟨_, _, _, _, _, _, _, b3⟩, hk3 _ _ ht2 (by simp), gp.rw, gp.s2, fun H4 hk4 => ⟨_, rfl, ?_⟩⟩
    have hs1 := gp.s1
    have hs2 := gp.s2
    have b4 := b3.kp0 hk4
    refine ⟨_, rfl, _, rfl, _, rfl, _, _, rfl, rfl, b, dl, bk, pl.span - 1, pl.last, ?_, ⟨_, _, _, _, _, _, _, b4⟩, hk4 _ _ (hk3 _ _ hl2 (by simp)) (by simp), gp.la, by omega, fun H5 hk5 => ⟨_, rfl, rfl, (hk3.trans hk4).trans hk5⟩⟩
    show [V.ref b, .ref dl, .int ((pl.span : Int) - 1)] = _
    rw [show ((pl.span : Int) - 1) = ((pl.span - 1 : Nat) : Int) by omega]
  rintro σ' H4 ⟨rfl, hk4⟩
  have hk04 := hk2.trans hk4
  have b4 := b2.kp0 hk4
  have ha4 := hk04 _ _ ha (by simp)
  have ho4 := hk04 _ _ ho (by simp)
  have ht4 := hk4 _ _ ht2 (by simp)
  have hl4 := hk4 _ _ hl2 (by simp)
  have ndo : dt ≠ a := by
    rintro rfl
    rw [ha4] at ht4
    cases ht4
  have nlo : dl ≠ a := by
    rintro rfl
    rw [ha4] at hl4
    cases hl4
  have noo : o ≠ a := by
    rintro rfl
    rw [ha4] at ho4
    cases ho4
  -- what is kept from here on
  have keepB : ∀ Hx, Kp [a] H Hx → BookAt CB Hx b bk dxb d0 p0 al ac lg de := fun Hx kx => by
    refine ⟨kx _ _ b0.ha fun z => ?_, kx _ _ b0.hd fun z => ?_, kx _ _ b0.hp fun z => ?_, kx _ _ b0.hl fun z => ?_, b0.hac, b0.hal, b0.hlg, b0.hlg5, b0.hlg1, b0.hlgm, b0.g, b0.so⟩
    · have := b0.ha
      rw [List.mem_singleton.mp z, ha] at this
      injection this with this
      injection this with _ _ this
      cases this
    · have := b0.hd
      rw [List.mem_singleton.mp z, ha] at this
      cases this
    · have := b0.hp
      rw [List.mem_singleton.mp z, ha] at this
      cases this
    · have := b0.hl
      rw [List.mem_singleton.mp z, ha] at this
      cases this
  have hst : ∃ σ0 : L2.St, σ0 = [some (.ref a), some (.ref b), some (.ref o), some (.int pl.span), some (.ref dt), some (.ref dl), none] := ⟨_, rfl⟩
  obtain ⟨σ0, eσ⟩ := hst
  -- own_book
  refine ⟨fun σ' H' => σ' = [some (.ref a), some (.ref b), some (.ref o), some (.int pl.span), some (.ref dt), some (.ref dl), none] ∧ Kp [a] H H' ∧ H' a = some (.ins CC dx [("own_book", .ref b)]) ∧ H' o = some (.tup (pl.order.map tv)) ∧ H' dt = some (.dK (dV tv pl.rows)) ∧ H' dl = some (.dK (dV tv pl.last)), ?_, ?_⟩
  · refine ⟨_, rfl, _, rfl, a, CC, dx, _, rfl, ha4, T.cl_Cutter, T.no_Cutter_own_book, by simp, rfl, (hk04.any [a]).up (.inr (by simp)), upd_same, ?_, ?_, ?_⟩
    · rw [upd_ne noo]; exact ho4
    · rw [upd_ne ndo]; exact ht4
    · rw [upd_ne nlo]; exact hl4
  rintro σ' H5 ⟨rfl, hk5, ha5, ho5, ht5, hl5⟩
  refine ⟨fun σ' H' => σ' = [some (.ref a), some (.ref b), some (.ref o), some (.int pl.span), some (.ref dt), some (.ref dl), none] ∧ Kp [a] H H' ∧ H' a = some (.ins CC dx [("own_book", .ref b), ("own_order", .ref o)]) ∧ H' o = some (.tup (pl.order.map tv)) ∧ H' dt = some (.dK (dV tv pl.rows)) ∧ H' dl = some (.dK (dV tv pl.last)), ?_, ?_⟩
  · refine ⟨_, rfl, _, rfl, a, CC, dx, _, rfl, ha5, T.cl_Cutter, T.no_Cutter_own_order, by simp, rfl, hk5.up (.inr (by simp)), upd_same, ?_, ?_, ?_⟩
    · rw [upd_ne noo]; exact ho5
    · rw [upd_ne ndo]; exact ht5
    · rw [upd_ne nlo]; exact hl5
  rintro σ' H6 ⟨rfl, hk6, ha6, ho6, ht6, hl6⟩
  refine ⟨fun σ' H' => σ' = [some (.ref a), some (.ref b), some (.ref o), some (.int pl.span), some (.ref dt), some (.ref dl), none] ∧ Kp [a] H H' ∧ H' a = some (.ins CC dx [("own_book", .ref b), ("own_order", .ref o), ("own_view", .int pl.span)]) ∧ H' o = some (.tup (pl.order.map tv)) ∧ H' dt = some (.dK (dV tv pl.rows)) ∧ H' dl = some (.dK (dV tv pl.last)), ?_, ?_⟩
  · refine ⟨_, rfl, _, rfl, a, CC, dx, _, rfl, ha6, T.cl_Cutter, T.no_Cutter_own_view, by simp, rfl, hk6.up (.inr (by simp)), upd_same, ?_, ?_, ?_⟩
    · rw [upd_ne noo]; exact ho6
    · rw [upd_ne ndo]; exact ht6
    · rw [upd_ne nlo]; exact hl6
  rintro σ' H7 ⟨rfl, hk7, ha7, ho7, ht7, hl7⟩
  -- own_table
  refine ⟨fun σ' H' => ∃ (tb : Addr) (rw : Tb) (x : Option V), σ' = [some (.ref a), some (.ref b), some (.ref o), some (.int pl.span), some (.ref dt), some (.ref dl), x] ∧ Kp [a] H H' ∧ H' a = some (.ins CC dx [("own_book", .ref b), ("own_order", .ref o), ("own_view", .int pl.span), ("own_table", .ref tb)]) ∧ H' o = some (.tup (pl.order.map tv)) ∧ H' dt = some (.dK (dV tv pl.rows)) ∧ H' dl = some (.dK (dV tv pl.last)) ∧ H' tb = some (.dK (dV tv rw)) ∧ rw.Perm pl.rows, ?_, ?_⟩
  · have hml := gp.rw.le
    refine ⟨_, rfl, dt, dV tv pl.rows, (pl.rows.map (·.1)).map SX.S, rfl, .inl ht7, by simp only [dV, List.map_map]; rfl, by rw [List.length_map, List.length_map]; omega, fun ys q hys hso hq => ?_⟩
    obtain ⟨ls, rfl, hls, hsr⟩ := perm_S hys hso
    have naq := ne_of_none ha7 hq
    have noq := ne_of_none ho7 hq
    have ntq := ne_of_none ht7 hq
    have nlq := ne_of_none hl7 hq
    have hq0 : H q = none := hk7.free hq (by simpa using naq.symm)
    have hqq : upd H7 q (.lst ((ls.map SX.S).map V.str)) q = some (.lst (ls.map tv)) := by
      rw [upd_same, List.map_map]
      rfl
    refine ⟨q, rfl, ⟨_, SqL.of hqq⟩, fun D hD => ?_⟩
    have hkq : Kp [a] H (upd H7 q (.lst ((ls.map SX.S).map V.str))) := hk7.up (.inl hq0)
    have hqD := ne_of_none hqq hD
    have haD : a ≠ D := ne_of_none (show upd H7 q _ a = some _ by rw [upd_ne naq]; exact ha7) hD
    have hoD : o ≠ D := ne_of_none (show upd H7 q _ o = some _ by rw [upd_ne noq]; exact ho7) hD
    have htD : dt ≠ D := ne_of_none (show upd H7 q _ dt = some _ by rw [upd_ne ntq]; exact ht7) hD
    have hlD : dl ≠ D := ne_of_none (show upd H7 q _ dl = some _ by rw [upd_ne nlq]; exact hl7) hD
    have hD0 : H D = none := hkq.free hD (by simpa using haD.symm)
    have hlsl := hls.length_eq
    rw [List.length_map] at hlsl
    refine dc_texts (f := tv) ls (fun t => (getA pl.rows t).getD []) (hls.nodup_iff.mpr gp.rw.nd) (fun kvs => SqL.of (by rw [upd_ne hqD]; exact hqq)) (by omega) ?_ ?_
    · intro t ht kvs Nx hz nx
      obtain ⟨p, hp, ep⟩ := List.mem_map.mp (hls.mem_iff.mp ht)
      have hg := getA_mem gp.rw.nd (show (p.1, p.2) ∈ pl.rows from hp)
      rw [ep] at hg
      refine ⟨rfl, _, rfl, _, rfl, _, rfl, dt, tv p.2, rfl, ?_, kvs, kx t, rfl, upd_same, hz, ?_⟩
      · exact dget_S (f := tv) (by rw [upd_ne htD, upd_ne ntq]; exact ht7) hg
      · rw [upd_upd]
        rw [hg] at nx
        exact nx
    refine ⟨_, rfl, a, CC, dx, _, rfl, by rw [upd_ne haD, upd_ne naq]; exact ha7, T.cl_Cutter, T.no_Cutter_own_table, by simp, D, _, _, rfl, (hkq.up (.inl hD0)).up (.inr (by simp)), upd_same, ?_, ?_, ?_, ?_, tb_dict (ls := pl.rows) gp.rw.nd hls⟩
    · rw [upd_ne noo, upd_ne hoD, upd_ne noq]; exact ho7
    · rw [upd_ne ndo, upd_ne htD, upd_ne ntq]; exact ht7
    · rw [upd_ne nlo, upd_ne hlD, upd_ne nlq]; exact hl7
    · rw [upd_ne haD.symm, upd_same]
  rintro σ' H8 ⟨tb, rw8, x8, rfl, hk8, ha8, ho8, ht8, hl8, htb8, hpr⟩
  have nta : tb ≠ a := by
    rintro rfl
    rw [ha8] at htb8
    cases htb8
  -- own_ends
  refine ⟨fun σ' H' => ∃ (en : Addr) (la : Tb) (x : Option V), σ' = [some (.ref a), some (.ref b), some (.ref o), some (.int pl.span), some (.ref dt), some (.ref dl), x] ∧ Kp [a] H H' ∧ H' a = some (.ins CC dx [("own_book", .ref b), ("own_order", .ref o), ("own_view", .int pl.span), ("own_table", .ref tb), ("own_ends", .ref en)]) ∧ H' o = some (.tup (pl.order.map tv)) ∧ H' dt = some (.dK (dV tv pl.rows)) ∧ H' tb = some (.dK (dV tv rw8)) ∧ H' en = some (.dK (dV tv la)) ∧ la.Perm pl.last, ?_, ?_⟩
  · have hml := gp.la.le
    refine ⟨_, rfl, dl, dV tv pl.last, (pl.last.map (·.1)).map SX.S, rfl, .inl hl8, by simp only [dV, List.map_map]; rfl, by rw [List.length_map, List.length_map]; omega, fun ys q hys hso hq => ?_⟩
    obtain ⟨ls, rfl, hls, hsr⟩ := perm_S hys hso
    have naq := ne_of_none ha8 hq
    have noq := ne_of_none ho8 hq
    have ntq := ne_of_none ht8 hq
    have nlq := ne_of_none hl8 hq
    have nbq := ne_of_none htb8 hq
    have hq0 : H q = none := hk8.free hq (by simpa using naq.symm)
    have hqq : upd H8 q (.lst ((ls.map SX.S).map V.str)) q = some (.lst (ls.map tv)) := by
      rw [upd_same, List.map_map]
      rfl
    refine ⟨q, rfl, ⟨_, SqL.of hqq⟩, fun D hD => ?_⟩
    have hkq : Kp [a] H (upd H8 q (.lst ((ls.map SX.S).map V.str))) := hk8.up (.inl hq0)
    have hqD := ne_of_none hqq hD
    have haD : a ≠ D := ne_of_none (show upd H8 q _ a = some _ by rw [upd_ne naq]; exact ha8) hD
    have hoD : o ≠ D := ne_of_none (show upd H8 q _ o = some _ by rw [upd_ne noq]; exact ho8) hD
    have htD : dt ≠ D := ne_of_none (show upd H8 q _ dt = some _ by rw [upd_ne ntq]; exact ht8) hD
    have hlD : dl ≠ D := ne_of_none (show upd H8 q _ dl = some _ by rw [upd_ne nlq]; exact hl8) hD
    have hbD : tb ≠ D := ne_of_none (show upd H8 q _ tb = some _ by rw [upd_ne nbq]; exact htb8) hD
    have hD0 : H D = none := hkq.free hD (by simpa using haD.symm)
    have hlsl := hls.length_eq
    rw [List.length_map] at hlsl
    refine dc_texts (f := tv) ls (fun t => (getA pl.last t).getD []) (hls.nodup_iff.mpr gp.la.nd) (fun kvs => SqL.of (by rw [upd_ne hqD]; exact hqq)) (by omega) ?_ ?_
    · intro t ht kvs Nx hz nx
      obtain ⟨p, hp, ep⟩ := List.mem_map.mp (hls.mem_iff.mp ht)
      have hg := getA_mem gp.la.nd (show (p.1, p.2) ∈ pl.last from hp)
      rw [ep] at hg
      refine ⟨rfl, _, rfl, _, rfl, _, rfl, dl, tv p.2, rfl, ?_, kvs, kx t, rfl, upd_same, hz, ?_⟩
      · exact dget_S (f := tv) (by rw [upd_ne hlD, upd_ne nlq]; exact hl8) hg
      · rw [upd_upd]
        rw [hg] at nx
        exact nx
    refine ⟨_, rfl, a, CC, dx, _, rfl, by rw [upd_ne haD, upd_ne naq]; exact ha8, T.cl_Cutter, T.no_Cutter_own_ends, by simp, D, _, _, rfl, (hkq.up (.inl hD0)).up (.inr (by simp)), upd_same, ?_, ?_, ?_, ?_, tb_dict (ls := pl.last) gp.la.nd hls⟩
    · rw [upd_ne noo, upd_ne hoD, upd_ne noq]; exact ho8
    · rw [upd_ne ndo, upd_ne htD, upd_ne ntq]; exact ht8
    · rw [upd_ne nta, upd_ne hbD, upd_ne nbq]; exact htb8
    · rw [upd_ne haD.symm, upd_same]
  rintro σ' H9 ⟨en, la9, x9, rfl, hk9, ha9, ho9, ht9, htb9, hen9, hpl⟩
  have nea : en ≠ a := by
    rintro rfl
    rw [ha9] at hen9
    cases hen9
  -- own_sizes
  have hml := gp.rw.le
  refine ⟨dt, _, ht9, trivial, fun od => ⟨_, rfl, dt, od, rfl, .inl ⟨_, upd_same, fun D hD => ?_⟩⟩⟩
  have hDd : D ≠ dt := by
    rintro rfl
    rw [upd_same] at hD
    cases hD
  have hD9 : H9 D = none := by rw [upd_ne hDd] at hD; exact hD
  refine ⟨fun i m Hx => m = pl.rows.length - i ∧ i ≤ pl.rows.length ∧ ∃ S n, n ≤ i ∧ (∀ k : Int, S k = true ↔ ∃ p ∈ pl.rows.take i, k = p.1.length) ∧ Hx = upd (upd H9 dt (.frz od (.dK (dV tv pl.rows)))) D (SetO w D S n), ⟨_, rfl, Nat.zero_le _, fun _ => false, 0, Nat.le_refl _, fun k => ⟨fun h => (by cases h), fun h => (by obtain ⟨p, hp, _⟩ := h; cases hp)⟩, rfl⟩, ?_⟩
  rintro i m Hx ⟨rfl, hi, S, n, hn, hS, rfl⟩
  have frz : upd (upd H9 dt (.frz od (.dK (dV tv pl.rows)))) D (SetO w D S n) dt = some (.frz od (.dK (dV tv pl.rows))) := by rw [upd_ne hDd.symm, upd_same]
  by_cases hlt : i < pl.rows.length
  · refine .inr ⟨⟨frz, by rw [dV_length]; exact hlt⟩, fun Hx => ∃ S n, n ≤ i + 1 ∧ (∀ k : Int, S k = true ↔ ∃ p ∈ pl.rows.take (i + 1), k = p.1.length) ∧ Hx = upd (upd H9 dt (.frz od (.dK (dV tv pl.rows)))) D (SetO w D S n), fun Hx h => ⟨pl.rows.length - (i + 1), by omega, rfl, by omega, h⟩, ?_⟩
    rintro x Hy ⟨rfl, k0, v0, e1, rfl⟩
    have e2 : k0 = kx pl.rows[i].1 := by
      simp only [dV, List.getElem?_map, List.getElem?_eq_getElem hlt, Option.map_some, Option.some.injEq, Prod.mk.injEq] at e1
      exact e1.1.symm
    subst e2
    have hln := gp.rw.ln _ (List.getElem_mem hlt)
    have hs2 := gp.s2
    refine ⟨rfl, _, rfl, _, rfl, by omega, _, S, n, rfl, upd_same, by show n + 1 < 4096; omega, fun j => S j || decide (j = (pl.rows[i].1.length : Int)), if S (pl.rows[i].1.length : Int) = true then n else n + 1, ?_, fun k => ?_, upd_upd⟩
    · split <;> omega
    · rw [List.take_add_one, List.getElem?_eq_getElem hlt, Bool.or_eq_true, decide_eq_true_eq, hS k]
      constructor
      · rintro (⟨p, hp, e⟩ | e)
        · exact ⟨p, List.mem_append_left _ hp, e⟩
        · exact ⟨pl.rows[i], List.mem_append_right _ (by simp), e⟩
      · rintro ⟨p, hp, e⟩
        rcases List.mem_append.mp hp with hp | hp
        · exact .inl ⟨p, hp, e⟩
        · have : p = pl.rows[i] := by simpa using hp
          rw [this] at e
          exact .inr e
  · have ei : i = pl.rows.length := by omega
    refine .inl ⟨⟨frz, by rw [dV_length, ei]; exact Nat.le_refl _⟩, frz, ?_⟩
    rw [upd_lock ht9 hDd]
    rw [ei, List.take_length] at hS
    have haD := ne_of_none ha9 hD9
    have hoD := ne_of_none ho9 hD9
    have hbD := ne_of_none htb9 hD9
    have heD := ne_of_none hen9 hD9
    have hD0 : H D = none := hk9.free hD9 (by simpa using haD.symm)
    refine ⟨D, S, n, rfl, upd_same, by omega, fun ns r hup hmem hnl hr => ?_⟩
    have hkr : Kp [a] H (upd H9 D (SetO w D S n)) := hk9.up (.inl hD0)
    have nar : a ≠ r := ne_of_none (show upd H9 D _ a = some _ by rw [upd_ne haD]; exact ha9) hr
    have nor : o ≠ r := ne_of_none (show upd H9 D _ o = some _ by rw [upd_ne hoD]; exact ho9) hr
    have nbr : tb ≠ r := ne_of_none (show upd H9 D _ tb = some _ by rw [upd_ne hbD]; exact htb9) hr
    have ner : en ≠ r := ne_of_none (show upd H9 D _ en = some _ by rw [upd_ne heD]; exact hen9) hr
    have hr0 : H r = none := hkr.free hr (by simpa using nar.symm)
    have hkr2 : Kp [a] H (upd (upd H9 D (SetO w D S n)) r (.lst (ns.map V.int))) := hkr.up (.inl hr0)
    refine ⟨r, _, rfl, .inl ⟨SqL.of upd_same, fun z hz => ?_⟩⟩
    have naz : a ≠ z := ne_of_none (show upd (upd H9 D _) r _ a = some _ by rw [upd_ne nar, upd_ne haD]; exact ha9) hz
    have noz : o ≠ z := ne_of_none (show upd (upd H9 D _) r _ o = some _ by rw [upd_ne nor, upd_ne hoD]; exact ho9) hz
    have nbz : tb ≠ z := ne_of_none (show upd (upd H9 D _) r _ tb = some _ by rw [upd_ne nbr, upd_ne hbD]; exact htb9) hz
    have nez : en ≠ z := ne_of_none (show upd (upd H9 D _) r _ en = some _ by rw [upd_ne ner, upd_ne heD]; exact hen9) hz
    have hz0 : H z = none := hkr2.free hz (by simpa using naz.symm)
    have hkz : Kp [a] H (upd (upd (upd H9 D (SetO w D S n)) r (.lst (ns.map V.int))) z (.tup (ns.map V.int))) := hkr2.up (.inl hz0)
    refine ⟨_, rfl, a, CC, dx, _, rfl, by rw [upd_ne naz, upd_ne nar, upd_ne haD]; exact ha9, T.cl_Cutter, T.no_Cutter_own_sizes, by simp, ?_⟩
    have hkF : Kp [a] H (upd (upd (upd (upd H9 D (SetO w D S n)) r (.lst (ns.map V.int))) z (.tup (ns.map V.int))) a (CutO CC dx b o tb en z pl.span)) := hkz.up (.inr (by simp))
    refine k _ ⟨dx, b, o, tb, en, z, rw8, la9, ns, upd_same, ⟨_, _, _, _, _, _, _, keepB _ hkF⟩, ?_, ?_, ?_, ?_, hpr, hpl, hup, fun k => (hmem k).trans (hS k), by omega, gp⟩ hkF
    · rw [upd_ne noo, upd_ne noz, upd_ne nor, upd_ne hoD]; exact ho9
    · rw [upd_ne nta, upd_ne nbz, upd_ne nbr, upd_ne hbD]; exact htb9
    · rw [upd_ne nea, upd_ne nez, upd_ne ner, upd_ne heD]; exact hen9
    · rw [upd_ne naz.symm, upd_same]
end
end K75
-- part P9
set_option Elab.async false
set_option linter.all false
set_option maxRecDepth 100000
set_option maxHeartbeats 4000000
namespace K75
open PySem PySem.Spec PyProof.Rows L2
section
variable {bk : Bk} {n : Nat} {m : Tb} {ns : List Int} {w : Tx0}
theorem sizes_hit (g : GoodTb bk n m) (up : ns.Pairwise (· < ·)) (mem : ∀ k : Int, k ∈ ns ↔ ∃ p ∈ m, k = p.1.length) {j : Nat} {k : Int} {p : Tx0} (hj : ns[j]? = some k) (no : ∀ (i : Nat) (q : Int), i < j → ns[i]? = some q → getA m (w.take q.toNat) = none)
    (hp : getA m (w.take k.toNat) = some p) : firstRow m w (List.range' 1 w.length) = some p := by
  obtain ⟨q0, hq0, ek⟩ := (mem k).mp (List.mem_of_getElem? hj)
  have hk1 := (g.ln _ hq0).1
  -- a smaller size that is told is an earlier one
  have early : ∀ s : Nat, 1 ≤ s → s < k.toNat → s ≤ w.length → getA m (w.take s) = none := by
    intro s h1 h2 h3
    cases e : getA m (w.take s) with
    | none => rfl
    | some u =>
      have hm := getA_some e
      have hl : (w.take s).length = s := by rw [List.length_take]; omega
      have hin : ((s : Nat) : Int) ∈ ns := (mem _).mpr ⟨_, hm, by show (s : Int) = ((w.take s).length : Int); rw [hl]⟩
      obtain ⟨i, hi, ei⟩ := List.getElem_of_mem hin
      have hjl := (List.getElem?_eq_some_iff.mp hj).1
      have ej := (List.getElem?_eq_some_iff.mp hj).2
      have hij : i < j := by
        rcases Nat.lt_trichotomy i j with h | h | h
        · exact h
        · subst h
          rw [ei] at ej
          omega
        · have := List.pairwise_iff_getElem.mp up j i hjl hi h
          rw [ej, ei] at this
          omega
      have := no i s hij (by rw [List.getElem?_eq_getElem hi, ei])
      rw [Int.toNat_natCast, e] at this
      cases this
  by_cases hle : k.toNat ≤ w.length
  · refine firstRow_hit (i := k.toNat - 1) (fun s h1 h2 => early s h1 (by omega) (by omega)) (by omega) ?_
    rw [show k.toNat - 1 + 1 = k.toNat by omega]
    exact hp
  · have ew : w.take k.toNat = w := List.take_of_length_le (by omega)
    rw [ew] at hp
    have hm := getA_some hp
    have hl := (g.ln _ hm).1
    have := early w.length hl (by omega) (Nat.le_refl _)
    rw [List.take_length, hp] at this
    cases this
theorem sizes_none (mem : ∀ k : Int, k ∈ ns ↔ ∃ p ∈ m, k = p.1.length) (no : ∀ (i : Nat) (q : Int), ns[i]? = some q → getA m (w.take q.toNat) = none) : firstRow m w (List.range' 1 w.length) = none := by
  refine firstRow_none fun s h1 h2 => ?_
  cases e : getA m (w.take s) with
  | none => rfl
  | some u =>
    have hm := getA_some e
    have hl : (w.take s).length = s := by rw [List.length_take]; omega
    have hin : ((s : Nat) : Int) ∈ ns := (mem _).mpr ⟨_, hm, by show (s : Int) = ((w.take s).length : Int); rw [hl]⟩
    obtain ⟨i, hi, ei⟩ := List.getElem_of_mem hin
    have := no i s (by rw [List.getElem?_eq_getElem hi, ei])
    rw [Int.toNat_natCast, e] at this
    cases this
end
section
variable {P : Program} {w : World} {K : PySem.W.Frag} {mg : Str → Option Value} {base : Heap} {CB CC CF : Addr}
def sp_told_by (CB CC : Addr) : Sp := fun vs H Q _ => ∃ (a : Addr) (bk : Bk) (pl : Pl) (t : Tx0) (b : Bool), vs = [.ref a, tv t, .bl b] ∧ CutH CB CC H a bk pl ∧ Ov bk t ∧ t ≠ [] ∧ t.length ≤ 10000 ∧ ∀ H', Kp [] H H' → Q (tv (tellM pl t b)) H'
theorem c_Cutter_told_by (T : Ty K mg CB CC CF) : C8.Met P w K mg base 1 CC "told_by" (sp_told_by CB CC) [] := by
  refine met_of T.m_Cutter_told_by T.cl_Cutter sc_p_Cutter_told_by (fun _ _ _ _ _ _ us hl => match us, hl with | [_, _, _], _ => rfl) (fun vs H Q E h => ?_) (fun cdv A outer f s H vs Q E hr h => ?_)
  · obtain ⟨a, bk, pl, t, b, rfl, _⟩ := h
    rfl
  · obtain ⟨a, bk, pl, t, b, rfl, ⟨dx, ab, o, tb, en, sz, rw0, la, ns, c⟩, ho, hne, htl, q⟩ := h
    have h3 : sizeLine = 16777216 := sizeLine_eq
    have hlt : t.length ≤ sizeLine := by omega
    have gp := c.gp
    have er : ∀ k, getA rw0 k = getA pl.rows k := fun k => getA_perm c.hpr gp.rw.nd k
    have el : ∀ k, getA la k = getA pl.last k := fun k => getA_perm c.hpl gp.la.nd k
    refine ⟨_, (C8.pss_cut (ps_if (PW.pt (pw_and (pt_val (pv 2)) (pw_and1 (pt_cmp (pc_din (hu1 hr) (pv 1) (pe_fldK (K := K) rfl (pv 0)))))))
    (pss_one (ps_ret (pe_dget (hu1 hr) (pe_fldK (K := K) rfl (pv 0)) (pv 1) (fun _ _ => rfl))))
    pss_nil)
  (pss_cons (ps_for PassesOwn.never rfl (pi_tup (pe_fldK (K := K) rfl (pv 0))) (pg_name (i := 3) sc_p_Cutter_told_by.nd rfl (Or.inl rfl))
    (pss_one (ps_if (pt_cmp (pc_din (hu1 hr) (pe_slice sl_tx (pv 1) po_none (po_some (pv 3))) (pe_fldK (K := K) rfl (pv 0))))
      (pss_one (ps_ret (pe_dget (hu1 hr) (pe_fldK (K := K) rfl (pv 0)) (pe_slice sl_tx (pv 1) po_none (po_some (pv 3))) (fun _ _ => rfl))))
      pss_nil)))
  (pss_one (ps_ret (pe_ix (ix_listK (K := K) rfl) (pe_lc (own := [("piece", 4)]) (g := gName 4) rfl sc_p_Cutter_told_by.nd (pi_tup (pe_fldK (K := K) rfl (pv 0))) (blkOk_by (own := [("piece", 4)]) (N := N_p_Cutter_told_by) (sc := (defScope s_p_Cutter_told_by)) (by decide +kernel)) (fun _ _ _ _ _ => (pg_name (i := 4) sc_p_Cutter_told_by.nd rfl (Or.inl rfl))) (fun _ _ _ _ _ => (pts_one (pt_val (pe_m1 PySem.F.slot_str_startswith PySem.F.type_str_startswith mt_startswith (pv 1) (pv 4))))) (fun _ _ _ _ _ => (pv 4))) pe_int (fun _ _ => rfl)))))), ?_⟩
    refine ⟨fun σ' H' => σ' = [some (.ref a), some (tv t), some (.bl b), none, none] ∧ H = H' ∧ (if b = true then getA pl.last t else none) = none, ?_, ?_⟩
    · refine ⟨_, rfl, _, rfl, ite2 (fun hb => ⟨_, rfl, _, rfl, _, _, _, _, _, rfl, c.ha, T.cl_Cutter, T.no_Cutter_own_ends, rfl, _, _, rfl, dget_A c.he t, _, rfl, ?_⟩) (fun hb => ⟨rfl, rfl, if_neg hb⟩)⟩
      rw [el]
      refine ite2 (fun hc => ?_) (fun hc => ?_)
      · obtain ⟨p, hp2⟩ : ∃ p, getA pl.last t = some p := by
          cases e : getA pl.last t with
          | none => rw [e] at hc; exact absurd hc (by decide)
          | some p => exact ⟨p, rfl⟩
        refine ⟨_, rfl, _, _, _, _, _, rfl, c.ha, T.cl_Cutter, T.no_Cutter_own_ends, rfl, _, rfl, en, tv p, rfl, dget_S c.he (by rw [el]; exact hp2), ?_⟩
        have e : tellM pl t b = p := by
          unfold tellM
          rw [if_pos hb, hp2]
        rw [← e]
        exact q H (kp_refl H)
      · refine ⟨rfl, rfl, ?_⟩
        rw [if_pos hb]
        cases e : getA pl.last t with
        | none => rfl
        | some p => rw [e] at hc; exact absurd rfl hc
    · rintro σ' H' ⟨rfl, rfl, hn⟩
      refine ⟨_, rfl, _, _, _, _, _, rfl, c.ha, T.cl_Cutter, T.no_Cutter_own_sizes, rfl, sz, rfl, ⟨_, SqT.of c.hz⟩, ?_⟩
      refine for_it (walk_tup (xs := ns.map V.int)) (fun i σ' H' => ∃ x : Option V, σ' = [some (.ref a), some (tv t), some (.bl b), x, none] ∧ H = H' ∧ ∀ (j : Nat) (k : Int), j < i → ns[j]? = some k → getA pl.rows (t.take k.toNat) = none) ⟨none, rfl, rfl, fun j k h => by omega⟩ (fun i σ H' _ ⟨_, _, h, _⟩ => by rw [← h]; exact SqT.of c.hz) ?_ ?_
      · rintro i x σ H1 H2 hi ⟨x3, rfl, rfl, hno⟩ ⟨rfl, ex⟩
        rw [List.getElem?_map] at ex
        obtain ⟨k, hk, rfl⟩ := Option.map_eq_some_iff.mp ex
        obtain ⟨p0, hp0, ek⟩ := (c.mem k).mp (List.mem_of_getElem? hk)
        have ek2 : k = ((k.toNat : Nat) : Int) := by omega
        refine ⟨_, rfl, _, rfl, _, rfl, _, rfl, hlt, .inl ⟨rfl, k.toNat, by rw [← ek2], _, rfl, _, _, _, _, _, rfl, c.ha, T.cl_Cutter, T.no_Cutter_own_table, rfl, _, _, rfl, dget_A c.ht _, _, rfl, ?_⟩⟩
        rw [er]
        refine ite2 (fun hc => ?_) (fun hc => ?_)
        · obtain ⟨p, hp2⟩ : ∃ p, getA pl.rows (t.take k.toNat) = some p := by
            cases e : getA pl.rows (t.take k.toNat) with
            | none => rw [e] at hc; exact absurd hc (by decide)
            | some p => exact ⟨p, rfl⟩
          refine ⟨_, rfl, _, _, _, _, _, rfl, c.ha, T.cl_Cutter, T.no_Cutter_own_table, rfl, _, rfl, _, rfl, _, rfl, _, rfl, hlt, .inl ⟨rfl, k.toNat, by rw [← ek2], tb, tv p, rfl, dget_S c.ht (by rw [er]; exact hp2), ?_⟩⟩
          have e : tellM pl t b = p := by
            unfold tellM
            rw [hn, sizes_hit gp.rw c.up c.mem hk (fun j q h1 h2 => hno j q h1 h2) hp2]
          rw [← e]
          exact q _ (kp_refl _)
        · refine ⟨_, rfl, rfl, fun j q0 h1 h2 => ?_⟩
          by_cases h4 : j < i
          · exact hno j q0 h4 h2
          · have : j = i := by omega
            rw [this, hk] at h2
            rw [← Option.some.inj h2]
            cases e : getA pl.rows (t.take k.toNat) with
            | none => rfl
            | some p => rw [e] at hc; exact absurd rfl hc
      · rintro σ H1 ⟨x3, rfl, rfl, hno⟩
        have hno2 : ∀ (j : Nat) (k : Int), ns[j]? = some k → getA pl.rows (t.take k.toNat) = none := fun j k h => hno j k (by rw [List.length_map]; exact (List.getElem?_eq_some_iff.mp h).1) h
        obtain ⟨p, hp1, hp2, hp3⟩ := head_pieces gp.od ho hne
        have hol : pl.order.length ≤ 12 := by
          have := gp.od.length_eq
          have h5 := c.hb.g.le
          rw [List.length_map] at this
          omega
        refine ⟨_, rfl, _, _, _, _, _, rfl, c.ha, T.cl_Cutter, T.no_Cutter_own_order, rfl, o, rfl, ⟨_, SqT.of c.ho⟩, fun D hD => ?_⟩
        have noD := ne_of_none c.ho hD
        refine comp_tup pl.order tv (fun p => beg p t) tv (fun acc => SqT.of (by rw [upd_ne noD]; exact c.ho)) (by omega) ?_ ?_
        · intro a ha acc Nx hz h1 h2
          refine ⟨rfl, _, rfl, ⟨_, rfl⟩, _, rfl, _, _, rfl, rfl, _, rfl, ?_⟩
          rw [starts_S]
          exact ite2 (fun hc => ⟨_, rfl, acc, upd_same, hz, by rw [upd_upd]; exact h1 hc⟩) (fun hc => h2 (by simpa using hc))
        · obtain ⟨l', hl'⟩ : ∃ l', pl.order.filter (fun p => beg p t) = p :: l' := by
            cases e : pl.order.filter (fun p => beg p t) with
            | nil => rw [e] at hp1; cases hp1
            | cons a l' => rw [e] at hp1; cases hp1; exact ⟨l', rfl⟩
          refine ⟨_, _, _, tv p, rfl, rfl, SqL.of upd_same, by rw [hl']; exact atI_nat rfl, ?_⟩
          have e : tellM pl t b = p := by
            unfold tellM
            rw [hn, sizes_none c.mem hno2, hp1]
            rfl
          rw [← e]
          exact q _ ((kp_refl _).up (.inl hD))
end
end K75
-- part P10
set_option Elab.async false
set_option linter.all false
set_option maxRecDepth 100000
set_option maxHeartbeats 4000000
namespace K75
open PySem PySem.Spec PyProof.Rows L2
/-- the price of a cut -/
def cost (bk : Bk) (ps : List Tx0) : Int := (ps.map fun p => (getA bk p).getD 0).sum
def sint (σ : L2.St) (i : Nat) : Nat := match σ[i]? with | some (some (.int z)) => z.toNat | _ => 0
section
variable {P : Program} {w : World} {K : PySem.W.Frag} {mg : Str → Option Value} {base : Heap} {CB CC CF : Addr}
def sp_cut_in (CB CC : Addr) : Sp := fun vs H Q _ => ∃ (a : Addr) (bk : Bk) (pl : Pl) (t : Tx0), vs = [.ref a, tv t] ∧ CutH CB CC H a bk pl ∧ Ov bk t ∧ t.length ≤ 8000 ∧
  ∀ (f : Addr) (H' : Hp), H f = none → Kp [] H H' → H' f = some (.lst ((cutM pl t).map tv)) → Q (.ref f) H'
theorem c_Cutter_cut_in (T : Ty K mg CB CC CF) : C8.Met P w K mg base 2 CC "cut_in" (sp_cut_in CB CC) [] := by
  refine met_of T.m_Cutter_cut_in T.cl_Cutter sc_p_Cutter_cut_in (fun _ _ _ _ _ _ us hl => match us, hl with | [_, _], _ => rfl) (fun vs H Q E h => ?_) (fun cdv A outer f s H vs Q E hr h => ?_)
  · obtain ⟨a, bk, pl, t, rfl, _⟩ := h
    rfl
  · obtain ⟨a, bk, pl, t, rfl, hc, ho, htl, k⟩ := h
    have h3 : sizeLine = 16777216 := sizeLine_eq
    have hlt : t.length ≤ sizeLine := by omega
    refine ⟨_, (pss_cons (ps_par (i := 2) (j := 3) (by rfl) sc_p_Cutter_cut_in.nd rfl rfl (by decide) rfl rfl (pa_cons (pe_lst pa_nil) (pa_cons pe_int pa_nil)) (by rfl))
  (pss_cons (ps_while PassesOwn.never (pt_cmpR op_lt (pv 3) (pe_callB call_lenT (by rfl) T.n_len (by decide +kernel) (pa_cons (pv 1) pa_nil)) (nomark _))
    (pss_cons (ps_set (i := 4) sc_p_Cutter_cut_in.nd rfl (Or.inl rfl) (pe_slice sl_tx (pv 1) (po_some (pv 3)) (po_some (pe_op op_add (pv 3) (pe_fldK (K := K) rfl (pv 0))))))
    (pss_cons (ps_expr (pe_bm PySem.F.plainAttrs_list PySem.F.slot_list_append PySem.F.type_list_append mt_append (pv 2) (pa_cons (C8.pe_mt (c_Cutter_told_by T) hr (by decide) (pv 0) (pa_cons (pv 4) (pa_cons (pe_cmpR op_lt (pe_callB call_lenT (by rfl) T.n_len (by decide +kernel) (pa_cons (pv 4) pa_nil)) (pe_fldK (K := K) rfl (pv 0)) (nomark _)) pa_nil))) pa_nil)))
    (pss_one (ps_aug (i := 3) sc_p_Cutter_cut_in.nd rfl (Or.inl rfl) (pe_callB call_lenT (by rfl) T.n_len (by decide +kernel) (pa_cons (pe_ix (ix_listK (K := K) rfl) (pv 2) (pe_un un_neg pe_int) (fun _ _ => rfl)) pa_nil)) ip_add)))))
  (pss_one (ps_ret (pv 2))))), ?_⟩
    obtain ⟨dx, ab, o, tb, en, sz, rw0, la, ns, c⟩ := hc
    have g := c.hb.g
    have gp := c.gp
    have hs1 := gp.s1
    have hs2 := gp.s2
    refine ⟨by show 0 ≤ sizeLine; omega, fun f hf => ⟨_, _, rfl, ?_⟩⟩
    refine while_by (fun σ H' => ∃ (fs : List Tx0) (n : Nat) (x : Option V), σ = [some (.ref a), some (tv t), some (.ref f), some (.int n), x] ∧ fs ++ cutM pl (t.drop n) = cutM pl t ∧ n ≤ t.length ∧ fs.length ≤ n ∧ Kp [] H H' ∧ H' f = some (.lst (fs.map tv)))
      (fun σ _ => t.length - sint σ 3) ⟨[], 0, none, rfl, rfl, Nat.zero_le _, Nat.le_refl _, (kp_refl H).up (.inl hf), upd_same⟩ ?_ ?_
    · rintro σ H1 ⟨fs, n, x, rfl, hcm, hn, hl, hk, hf1⟩
      have c1 := c.kp0 hk
      refine ⟨_, rfl, _, rfl, _, rfl, hlt, _, _, rfl, rfl, _, rfl, ?_⟩
      refine ite2 (fun hb => ?_) (fun hb => ?_)
      · have hnl : n < t.length := by
          have := of_decide_eq_true hb
          omega
        have hor := ov_drop ho n
        have hne : t.drop n ≠ [] := by
          intro e
          have := congrArg List.length e
          rw [List.length_drop] at this
          simp at this
          omega
        refine ⟨_, rfl, _, rfl, _, rfl, _, rfl, _, rfl, _, _, _, _, _, rfl, c1.ha, T.cl_Cutter, T.no_Cutter_own_view, rfl, _, _, rfl, rfl, _, rfl, _, rfl, hlt, .inr (.inr ⟨n, n + pl.span, rfl, by rw [Int.natCast_add], ?_⟩)⟩
        rw [show n + pl.span - n = pl.span by omega]
        have hwl : ((t.drop n).take pl.span).length ≤ 8000 := by
          rw [List.length_take, List.length_drop]
          omega
        refine ⟨_, rfl, .inl ⟨rfl, _, SqL.of hf1⟩, _, rfl, a, dx, _, rfl, c1.ha, rfl, _, rfl, _, rfl, _, rfl, by omega, _, rfl, _, _, _, _, _, rfl, c1.ha, T.cl_Cutter, T.no_Cutter_own_view, rfl, _, _, rfl, rfl, ?_⟩
        refine ⟨a, bk, pl, (t.drop n).take pl.span, _, rfl, ⟨dx, ab, o, tb, en, sz, rw0, la, ns, c1⟩, ov_take hor _, take_ne hs1 hne, by omega, fun H2 hk2 => ?_⟩
        have hf2 := hk2 _ _ hf1 (by simp)
        have eb : decide ((((t.drop n).take pl.span).length : Int) < (pl.span : Int)) = decide (((t.drop n).take pl.span).length < pl.span) := by
          rw [decide_eq_decide]
          omega
        rw [eb]
        have ec := cutM_cons g gp hor hne rfl
        have ln := tell_len g gp (ov_take hor pl.span) (take_ne hs1 hne) (decide (((t.drop n).take pl.span).length < pl.span))
        generalize tellM pl ((t.drop n).take pl.span) (decide (((t.drop n).take pl.span).length < pl.span)) = p at ec ln
        have ln2 := ln.2
        rw [List.length_take, List.length_drop] at ln2
        refine ⟨f, _, _, rfl, rfl, hf2, ?_, ?_⟩
        · rw [List.length_map]
          omega
        refine ⟨_, rfl, _, rfl, _, rfl, _, _, _, tv p, rfl, rfl, SqL.of upd_same, atI_end _ _, _, rfl, by omega, _, _, rfl, rfl, ?_⟩
        refine ⟨⟨fs ++ [p], n + p.length, _, by rw [Int.natCast_add]; rfl, ?_, by omega, ?_, ?_, ?_⟩, ?_⟩
        · rw [← hcm, ec, List.append_assoc, List.drop_drop]
          rfl
        · rw [List.length_append, List.length_singleton]
          omega
        · exact (hk.trans hk2).up (.inl hf)
        · rw [upd_same, List.map_append]
          rfl
        · show t.length - ((n : Int) + (p.length : Int)).toNat < t.length - (n : Int).toNat
          omega
      · have hnl : n = t.length := by
          have : ¬ ((n : Int) < (t.length : Int)) := fun z => hb (decide_eq_true z)
          omega
        rw [hnl, List.drop_length, cutM_nil, List.append_nil] at hcm
        rw [hcm] at hf1
        exact ⟨_, rfl, k f H1 hf hk hf1⟩
    · intro σ H Q Q' hQ h
      obtain ⟨z1, z2, z3, z4, z5, z6, z7, z8, z9, z10, z11, z12, b, q⟩ := h
      exact ⟨z1, z2, z3, z4, z5, z6, z7, z8, z9, z10, z11, z12, b, hQ _ _ q⟩
end
end K75
-- part P11
set_option Elab.async false
set_option linter.all false
set_option maxRecDepth 100000
set_option maxHeartbeats 4000000
namespace K75
open PySem PySem.Spec PyProof.Rows L2
theorem getA_pcs {bk : Bk} (g : GoodBook bk) {p : Tx0} (h : p ∈ pcs bk) : ∃ n, getA bk p = some n := by
  obtain ⟨q, hq, rfl⟩ := List.mem_map.mp h
  exact ⟨q.2, getA_mem g.nd hq⟩
theorem lay_tup {ts : List Tx0} (h : ∀ t ∈ ts, Lt t) : (PyData.tuple (dTx ts)).canLay0 = true := by simp only [PyData.canLay0, (texts_lay ts h).1]
theorem shp_tup {ts : List Tx0} (h : ∀ t ∈ ts, Lt t) : SeqAt.shaped (.tuple (dTx ts)) = true := by
  unfold SeqAt.shaped
  exact Bool.and_eq_true_iff.mpr ⟨lay_tup h, decide_eq_true (by have := (texts_lay ts h).2; simp only [PyData.depth]; omega)⟩
section
variable {P : Program} {w : World} {K : PySem.W.Frag} {mg : Str → Option Value} {base : Heap} {CB CC CF : Addr}
def sp_price_in (CB CC : Addr) : Sp := fun vs H Q _ => ∃ (a : Addr) (bk : Bk) (pl : Pl) (t : Tx0), vs = [.ref a, tv t] ∧ CutH CB CC H a bk pl ∧ Ov bk t ∧ t.length ≤ 8000 ∧ ∀ H', Kp [] H H' → Q (.int (cost bk (cutM pl t))) H'
theorem cut_len {bk : Bk} {pl : Pl} (g : GoodBook bk) (gp : GoodPl bk pl) {t : Tx0} (ho : Ov bk t) : (cutM pl t).length ≤ t.length := by
  obtain ⟨h1, h2⟩ := cut_ok g gp t.length t (Nat.le_refl _) ho
  have := congrArg List.length h2
  rw [List.length_flatten] at this
  rw [← this]
  clear this h2
  generalize cutM pl t = l at h1
  induction l with
  | nil => exact Nat.zero_le _
  | cons p l ih =>
    have hp := (pcs_len g (h1 p (List.mem_cons_self ..))).1
    have := ih fun q hq => h1 q (List.mem_cons_of_mem _ hq)
    rw [List.map_cons, List.sum_cons, List.length_cons]
    omega
theorem c_Cutter_price_in (T : Ty K mg CB CC CF) : C8.Met P w K mg base 3 CC "price_in" (sp_price_in CB CC) [] := by
  refine met_of T.m_Cutter_price_in T.cl_Cutter sc_p_Cutter_price_in (fun _ _ _ _ _ _ us hl => match us, hl with | [_, _], _ => rfl) (fun vs H Q E h => ?_) (fun cdv A outer f s H vs Q E hr h => ?_)
  · obtain ⟨a, bk, pl, t, rfl, _⟩ := h
    rfl
  · obtain ⟨a, bk, pl, t, rfl, hc, ho, htl, k⟩ := h
    have h3 : sizeLine = 16777216 := sizeLine_eq
    refine ⟨_, (pss_one (ps_ret (pe_callB (cr_sum rfl) (by rfl) T.n_sum (by decide +kernel) (pa_cons (pe_lc (own := [("piece", 2)]) (g := gName 2) rfl sc_p_Cutter_price_in.nd (pi_list (C8.pe_mt (c_Cutter_cut_in T) hr (by decide) (pv 0) (pa_cons (pv 1) pa_nil))) (blkOk_by (own := [("piece", 2)]) (N := N_p_Cutter_price_in) (sc := (defScope s_p_Cutter_price_in)) (by decide +kernel)) (fun _ _ _ _ _ => (pg_name (i := 2) sc_p_Cutter_price_in.nd rfl (Or.inl rfl))) (fun _ _ _ _ _ => pts_nil) (fun _ _ _ _ _ => (pe_dget (hu1 hr) (pe_fldK (K := K) rfl (pe_fldK (K := K) rfl (pv 0))) (pv 2) (fun _ _ => rfl)))) pa_nil)))), ?_⟩
    obtain ⟨dx, ab, o, tb, en, sz, rw0, la, ns, c⟩ := hc
    have g := c.hb.g
    refine ⟨_, rfl, a, dx, _, rfl, c.ha, rfl, _, rfl, a, bk, pl, t, rfl, ⟨dx, ab, o, tb, en, sz, rw0, la, ns, c⟩, ho, htl, fun f1 H1 hf hk hf1 => ?_⟩
    have c1 := c.kp0 hk
    have cl := cut_len g c.gp ho
    refine ⟨f1, rfl, ⟨_, SqL.of hf1⟩, fun D hD => ?_⟩
    have hfD := ne_of_none hf1 hD
    have kD : ∀ acc, Kp [] H1 (upd H1 D (.lst acc)) := fun acc => (kp_refl H1).up (.inl hD)
    refine comp_list (cutM pl t) tv (fun _ => true) (fun p => .int ((getA bk p).getD 0)) (fun acc => SqL.of (by rw [upd_ne hfD]; exact hf1)) (by omega) ?_ ?_
    · intro p hp acc Nx hz h1 h2
      obtain ⟨n, hn⟩ := getA_pcs g ((cut_ok g c.gp t.length t (Nat.le_refl _) ho).1 p hp)
      have c2 := c1.kp0 (kD acc)
      obtain ⟨dxb, d, p0, al, ac, lg, de, b2⟩ := c2.hb
      refine ⟨rfl, _, rfl, _, _, _, _, _, rfl, c2.ha, T.cl_Cutter, T.no_Cutter_own_book, rfl, _, _, _, _, _, rfl, b2.ha, T.cl_Book, T.no_Book_own_prices, rfl, _, rfl, d, .int n, rfl, dget_S b2.hd hn, acc, upd_same, hz, ?_⟩
      rw [upd_upd]
      have := h1 rfl
      rw [hn] at this
      exact this
    · refine ⟨D, (cutM pl t).map fun p => (getA bk p).getD 0, rfl, SqL.of ?_, ?_⟩
      · rw [upd_same, List.filter_eq_self.mpr fun _ _ => rfl]
        simp only [List.map_map]
        rfl
      · exact k _ (hk.up (.inl (hk.free hD (by simp))))
def sp_Cutter_cut (CB CC : Addr) : Sp := fun vs H Q _ => ∃ (a : Addr) (bk : Bk) (pl : Pl) (t : Tx0), vs = [.ref a, tv t] ∧ CutH CB CC H a bk pl ∧ Ov bk t ∧ t.length ≤ 8000 ∧
  ∀ (q : Addr) (H' : Hp), H q = none → Kp [] H H' → H' q = some (.tup ((cutM pl t).map tv)) → Q (.ref q) H'
theorem c_Cutter_cut (T : Ty K mg CB CC CF) : C8.Met P w K mg base 5 CC "cut" (sp_Cutter_cut CB CC) [] := by
  refine met_of T.m_Cutter_cut T.cl_Cutter sc_p_Cutter_cut (fun _ _ _ _ _ _ us hl => match us, hl with | [_, _], _ => rfl) (fun vs H Q E h => ?_) (fun cdv A outer f s H vs Q E hr h => ?_)
  · obtain ⟨a, bk, pl, t, rfl, _⟩ := h
    rfl
  · obtain ⟨a, bk, pl, t, rfl, ⟨dx, ab, o, tb, en, sz, rw0, la, ns, c⟩, ho, htl, k⟩ := h
    refine ⟨_, (pss_cons (ps_expr (C8.pe_c (c_p_require_text T) hr (by decide) (by rfl) (pa_cons (pe_fldK (K := K) rfl (pv 0)) (pa_cons (pv 1) pa_nil))))
  (pss_one (ps_ret (pe_callTy call_tuple_of (by rfl) T.n_tuple (by decide +kernel) (pa_cons (C8.pe_mt (c_Cutter_cut_in T) hr (by decide) (pv 0) (pa_cons (pv 1) pa_nil)) pa_nil))))), ?_⟩
    refine ⟨_, rfl, _, _, _, _, _, rfl, c.ha, T.cl_Cutter, T.no_Cutter_own_book, rfl, _, rfl, ab, bk, t, rfl, c.hb, ho, htl, fun H1 hk1 => ?_⟩
    have c1 := c.kp0 hk1
    refine ⟨_, rfl, a, dx, _, rfl, c1.ha, rfl, _, rfl, a, bk, pl, t, rfl, ⟨dx, ab, o, tb, en, sz, rw0, la, ns, c1⟩, ho, htl, fun f2 H2 hf hk2 hf2 => ?_⟩
    refine ⟨f2, _, rfl, .inl ⟨SqL.of hf2, fun q hq => ?_⟩⟩
    have hk := hk1.trans hk2
    exact k q _ (hk.free hq (by simp)) (hk.up (.inl (hk.free hq (by simp)))) upd_same
theorem c_Cutter_call (T : Ty K mg CB CC CF) : Cll P w K mg base 6 CC (sp_Cutter_cut CB CC) := by
  refine cll_of T.s_Cutter___call__ sc_p_Cutter___call__ (fun _ _ _ _ _ _ us hl => match us, hl with | [_, _], _ => rfl) (fun vs H Q E h => ?_) (fun cdv A outer f s H vs Q E hr h => ?_)
  · obtain ⟨a, bk, pl, t, rfl, _⟩ := h
    rfl
  · obtain ⟨a, bk, pl, t, rfl, ⟨dx, ab, o, tb, en, sz, rw0, la, ns, c⟩, ho, htl, k⟩ := h
    refine ⟨_, (pss_one (ps_ret (C8.pe_mt (c_Cutter_cut T) hr (by decide) (pv 0) (pa_cons (pv 1) pa_nil)))), ?_⟩
    exact ⟨_, rfl, a, dx, _, rfl, c.ha, rfl, _, rfl, a, bk, pl, t, rfl, ⟨dx, ab, o, tb, en, sz, rw0, la, ns, c⟩, ho, htl, k⟩
def sp_Cutter_behind (CB CC : Addr) : Sp := fun vs H Q _ => ∃ (a : Addr) (bk : Bk) (pl : Pl) (t : Tx0), vs = [.ref a, tv t] ∧ CutH CB CC H a bk pl ∧ Ov bk t ∧ t.length ≤ 8000 ∧
  ∀ (v : Int) (H' : Hp), Kp [] H H' → Cheap bk t v → Q (.int (cost bk (cutM pl t) - v)) H'
theorem c_Cutter_behind (T : Ty K mg CB CC CF) : C8.Met P w K mg base 5 CC "behind" (sp_Cutter_behind CB CC) [] := by
  refine met_of T.m_Cutter_behind T.cl_Cutter sc_p_Cutter_behind (fun _ _ _ _ _ _ us hl => match us, hl with | [_, _], _ => rfl) (fun vs H Q E h => ?_) (fun cdv A outer f s H vs Q E hr h => ?_)
  · obtain ⟨a, bk, pl, t, rfl, _⟩ := h
    rfl
  · obtain ⟨a, bk, pl, t, rfl, ⟨dx, ab, o, tb, en, sz, rw0, la, ns, c⟩, ho, htl, k⟩ := h
    refine ⟨_, (pss_cons (ps_expr (C8.pe_c (c_p_require_text T) hr (by decide) (by rfl) (pa_cons (pe_fldK (K := K) rfl (pv 0)) (pa_cons (pv 1) pa_nil))))
  (pss_one (ps_ret (pe_op op_sub (C8.pe_mt (c_Cutter_price_in T) hr (by decide) (pv 0) (pa_cons (pv 1) pa_nil)) (C8.pe_c (c_p_cheapest_price_in T) hr (by decide) (by rfl) (pa_cons (pe_fldK (K := K) rfl (pv 0)) (pa_cons (pv 1) pa_nil))))))), ?_⟩
    refine ⟨_, rfl, _, _, _, _, _, rfl, c.ha, T.cl_Cutter, T.no_Cutter_own_book, rfl, _, rfl, ab, bk, t, rfl, c.hb, ho, htl, fun H1 hk1 => ?_⟩
    have c1 := c.kp0 hk1
    refine ⟨_, rfl, a, dx, _, rfl, c1.ha, rfl, _, rfl, a, bk, pl, t, rfl, ⟨dx, ab, o, tb, en, sz, rw0, la, ns, c1⟩, ho, htl, fun H2 hk2 => ?_⟩
    have c2 := c1.kp0 hk2
    refine ⟨_, rfl, _, _, _, _, _, rfl, c2.ha, T.cl_Cutter, T.no_Cutter_own_book, rfl, _, rfl, ab, bk, t, rfl, c2.hb, ho, by omega, fun v H3 hk3 hv => ⟨_, _, rfl, rfl, k v H3 ((hk1.trans hk2).trans hk3) hv⟩⟩
/-! ### == -/
def sp_Book_eq (CB : Addr) : Sp := fun vs H Q _ => ∃ (a : Addr) (bk : Bk), vs = [.ref a, .ref a] ∧ BookH CB H a bk ∧ Q (.bl true) H
theorem dict_same {β : Type} {f : β → V} {m : List (Tx0 × β)} (nd : (m.map (·.1)).Nodup) (hf : ∀ v, flatB (f v) = true) : ∀ p ∈ dV f m, valV (dV f m) p.1 = some p.2 ∧ flatB p.2 = true := by
  intro p hp
  obtain ⟨q, hq, rfl⟩ := List.mem_map.mp hp
  refine ⟨?_, hf _⟩
  rw [valV_dV, getA_mem nd (show (q.1, q.2) ∈ m from hq)]
  rfl
theorem c_Book_eq (T : Ty K mg CB CC CF) : Spc P w K mg base 1 CB "__eq__" (sp_Book_eq CB) := by
  refine spc_of T.s_Book___eq__ sc_p_Book___eq__ (fun _ _ _ _ _ _ us hl => match us, hl with | [_, _], _ => rfl) (fun vs H Q E h => ?_) (fun cdv A outer f s H vs Q E hr h => ?_)
  · obtain ⟨a, bk, rfl, _⟩ := h
    rfl
  · obtain ⟨a, bk, rfl, ⟨dx, d, p0, al, ac, lg, de, b⟩, q⟩ := h
    refine ⟨_, (pss_one (ps_ret (pe_and (pe_callB (cr_isC T.is_Book) (by rfl) T.n_isinstance (by decide +kernel) (pa_cons (pv 1) (pa_cons (pe_glob (v := .ref CB) (by rfl) T.g_Book rfl) pa_nil))) (pe_one (pe_cmpR (op_eq_dictA hr.units0) (pe_fldK (K := K) rfl (pv 0)) (pe_fldK (K := K) rfl (pv 1)) (nomark _)))))), ?_⟩
    refine ⟨_, rfl, a, dx, _, rfl, b.ha, _, rfl, ?_⟩
    exact ⟨_, rfl, _, _, _, _, _, rfl, b.ha, T.cl_Book, T.no_Book_own_prices, rfl, _, rfl, _, _, _, _, _, rfl, b.ha, T.cl_Book, T.no_Book_own_prices, rfl, d, d, dB bk, dB bk, rfl, rfl, b.hd, b.hd, rfl, dict_same b.g.nd (fun _ => rfl), q⟩
def sp_Cutter_eq (CB CC : Addr) : Sp := fun vs H Q _ => ∃ (a : Addr) (bk : Bk) (pl : Pl), vs = [.ref a, .ref a] ∧ CutH CB CC H a bk pl ∧ Q (.bl true) H
theorem c_Cutter_eq (T : Ty K mg CB CC CF) : Spc P w K mg base 3 CC "__eq__" (sp_Cutter_eq CB CC) := by
  refine spc_of T.s_Cutter___eq__ sc_p_Cutter___eq__ (fun _ _ _ _ _ _ us hl => match us, hl with | [_, _], _ => rfl) (fun vs H Q E h => ?_) (fun cdv A outer f s H vs Q E hr h => ?_)
  · obtain ⟨a, bk, pl, rfl, _⟩ := h
    rfl
  · obtain ⟨a, bk, pl, rfl, ⟨dx, ab, o, tb, en, sz, rw0, la, ns, c⟩, q⟩ := h
    refine ⟨_, (pss_cons (ps_if (pt_not (pt_val (pe_callB (cr_isC T.is_Cutter) (by rfl) T.n_isinstance (by decide +kernel) (pa_cons (pv 1) (pa_cons (pe_glob (v := .ref CC) (by rfl) T.g_Cutter rfl) pa_nil)))))
    (pss_one (ps_ret pe_bl))
    pss_nil)
  (pss_cons (ps_if (PW.pt (pw_or (pt_cmpR (op_neO (c_Book_eq T) T.ne_Book hr (by decide)) (pe_fldK (K := K) rfl (pv 0)) (pe_fldK (K := K) rfl (pv 1)) (nomark _)) (pw_or1 (pt_cmpR (op_neD hr.units) (pe_fldK (K := K) rfl (pv 0)) (pe_fldK (K := K) rfl (pv 1)) (nomark _)))))
    (pss_one (ps_ret pe_bl))
    pss_nil)
  (pss_one (ps_ret (pe_and (pe_cmpR op_eq (pe_fldK (K := K) rfl (pv 0)) (pe_fldK (K := K) rfl (pv 1)) (nomark _)) (pe_and (pe_cmpR (op_eq_dictA hr.units0) (pe_fldK (K := K) rfl (pv 0)) (pe_fldK (K := K) rfl (pv 1)) (nomark _)) (pe_one (pe_cmpR (op_eq_dictA hr.units0) (pe_fldK (K := K) rfl (pv 0)) (pe_fldK (K := K) rfl (pv 1)) (nomark _))))))))), ?_⟩
    have gp := c.gp
    have g := c.hb.g
    have hlt : ∀ t ∈ pl.order, Lt t := fun t ht => ov_lt g (pcs_ov g (gp.od.mem_iff.mp ht))
    obtain ⟨dxb, d, p0, al, ac, lg, de, b⟩ := c.hb
    refine ⟨_, rfl, a, dx, _, rfl, c.ha, _, rfl, ?_⟩
    refine ⟨_, rfl, _, _, _, _, _, rfl, c.ha, T.cl_Cutter, T.no_Cutter_own_book, rfl, _, rfl, _, _, _, _, _, rfl, c.ha, T.cl_Cutter, T.no_Cutter_own_book, rfl, ab, ab, dxb, dxb, _, _, rfl, rfl, b.ha, b.ha, ab, bk, rfl, c.hb, true, rfl, _, rfl, ?_⟩
    refine ⟨_, rfl, _, _, _, _, _, rfl, c.ha, T.cl_Cutter, T.no_Cutter_own_order, rfl, _, rfl, _, _, _, _, _, rfl, c.ha, T.cl_Cutter, T.no_Cutter_own_order, rfl, .tuple (dTx pl.order), .tuple (dTx pl.order), .tup (SqT.of c.ho) (texts_dp _), .tup (SqT.of c.ho) (texts_dp _), ?_, ?_, _, rfl, ?_⟩
    · exact shp_tup hlt
    · exact shp_tup hlt
    rw [eqv_same (lay_tup hlt)]
    refine ⟨_, rfl, _, _, _, _, _, rfl, c.ha, T.cl_Cutter, T.no_Cutter_own_view, rfl, _, rfl, _, _, _, _, _, rfl, c.ha, T.cl_Cutter, T.no_Cutter_own_view, rfl, rfl, _, rfl, ?_⟩
    refine iteT' (decide_eq_true rfl) ?_
    refine ⟨_, rfl, _, _, _, _, _, rfl, c.ha, T.cl_Cutter, T.no_Cutter_own_table, rfl, _, rfl, _, _, _, _, _, rfl, c.ha, T.cl_Cutter, T.no_Cutter_own_table, rfl, tb, tb, dV tv rw0, dV tv rw0, rfl, rfl, c.ht, c.ht, rfl, dict_same ((c.hpr.map _).nodup_iff.mpr gp.rw.nd) (fun _ => rfl), _, rfl, ?_⟩
    exact ⟨_, rfl, _, _, _, _, _, rfl, c.ha, T.cl_Cutter, T.no_Cutter_own_ends, rfl, _, rfl, _, _, _, _, _, rfl, c.ha, T.cl_Cutter, T.no_Cutter_own_ends, rfl, en, en, dV tv la, dV tv la, rfl, rfl, c.he, c.he, rfl, dict_same ((c.hpl.map _).nodup_iff.mpr gp.la.nd) (fun _ => rfl), q⟩
end
end K75
-- part P12
set_option Elab.async false
set_option linter.all false
set_option maxRecDepth 100000
set_option maxHeartbeats 4000000
namespace K75
open PySem PySem.Spec PyProof.Rows L2
/-! ### a feeder -/
def FeedO (CF dx c b tp cp : Addr) (t : Tx0) (n : Nat) (e : Bool) : HO := .ins CF dx [("own_source", .ref c), ("own_book", .ref b), ("own_text", tv t), ("own_told", .ref tp), ("own_cut", .int n), ("own_ended", .bl e), ("own_calls", .ref cp)]
structure FeedAt (CF : Addr) (H : Hp) (f c b : Addr) (t : Tx0) (ps : List Tx0) (n : Nat) (e : Bool) (nc : Nat) (dx tp cp : Addr) (xs : List V) : Prop where
  hf : H f = some (FeedO CF dx c b tp cp t n e)
  ht : H tp = some (.tup (ps.map tv))
  hc : H cp = some (.tup xs)
  hn : xs.length ≤ nc
def FeedR (CF : Addr) (H : Hp) (f c b : Addr) (t : Tx0) (ps : List Tx0) (n : Nat) (e : Bool) (nc : Nat) : Prop := ∃ dx tp cp xs, FeedAt CF H f c b t ps n e nc dx tp cp xs
section
variable {CF f c b : Addr} {H H' : Hp} {t : Tx0} {ps : List Tx0} {n nc : Nat} {e : Bool} {dx tp cp : Addr} {xs : List V}
theorem FeedAt.kp0 (h : FeedAt CF H f c b t ps n e nc dx tp cp xs) (k : Kp [] H H') : FeedAt CF H' f c b t ps n e nc dx tp cp xs := ⟨k _ _ h.hf (by simp), k _ _ h.ht (by simp), k _ _ h.hc (by simp), h.hn⟩
theorem FeedR.kp0 (h : FeedR CF H f c b t ps n e nc) (k : Kp [] H H') : FeedR CF H' f c b t ps n e nc := by
  obtain ⟨dx, tp, cp, xs, h⟩ := h
  exact ⟨dx, tp, cp, xs, h.kp0 k⟩
theorem FeedAt.kp {D : List Addr} (h : FeedAt CF H f c b t ps n e nc dx tp cp xs) (k : Kp D H H') (v : VolAt CF H D) (hD : f ∉ D) : FeedAt CF H' f c b t ps n e nc dx tp cp xs := ⟨k _ _ h.hf hD, k.vol v h.ht nv_tup, k.vol v h.hc nv_tup, h.hn⟩
theorem FeedR.kp {D : List Addr} (h : FeedR CF H f c b t ps n e nc) (k : Kp D H H') (v : VolAt CF H D) (hD : f ∉ D) : FeedR CF H' f c b t ps n e nc := by
  obtain ⟨dx, tp, cp, xs, h⟩ := h
  exact ⟨dx, tp, cp, xs, h.kp k v hD⟩
theorem vol_feed (h : FeedR CF H f c b t ps n e nc) : VolAt CF H [f] := fun x hx => by
  rw [List.mem_singleton.mp hx]
  obtain ⟨dx, tp, cp, xs, h⟩ := h
  exact ⟨_, h.hf, .inr ⟨_, _, rfl⟩⟩
end
section
variable {P : Program} {w : World} {K : PySem.W.Frag} {mg : Str → Option Value} {base : Heap} {CB CC CF : Addr}
def sp_begin (CF : Addr) : Sp := fun vs H Q _ => ∃ (f dx c b : Addr), vs = [.ref f, .ref c, .ref b] ∧ H f = some (.ins CF dx []) ∧ ∀ H', FeedR CF H' f c b [] [] 0 false 0 → Kp [f] H H' → Q .non H'
theorem c_Feeder_begin (T : Ty K mg CB CC CF) : C8.Met P w K mg base 1 CF "begin" (sp_begin CF) [] := by
  refine met_of T.m_Feeder_begin T.cl_Feeder sc_p_Feeder_begin (fun _ _ _ _ _ _ us hl => match us, hl with | [_, _, _], _ => rfl) (fun vs H Q E h => ?_) (fun cdv A outer g s H vs Q E hr h => ?_)
  · obtain ⟨f, dx, c, b, rfl, _⟩ := h
    rfl
  · obtain ⟨f, dx, c, b, rfl, hf, k⟩ := h
    have h3 : sizeLine = 16777216 := sizeLine_eq
    refine ⟨_, (C8.pss_cut (ps_fld (pv 0) (pv 1) rfl)
  (C8.pss_cut (ps_fld (pv 0) (pv 2) rfl)
  (C8.pss_cut (ps_fld (pv 0) pe_str rfl)
  (C8.pss_cut (ps_fld (pv 0) (pe_tup pa_nil) rfl)
  (C8.pss_cut (ps_fld (pv 0) pe_int rfl)
  (C8.pss_cut (ps_fld (pv 0) pe_bl rfl)
  (pss_one (ps_fld (pv 0) (pe_tup pa_nil) rfl)))))))), ?_⟩
    refine ⟨fun σ' H' => σ' = [some (.ref f), some (.ref c), some (.ref b)] ∧ Kp [f] H H' ∧ H' f = some (.ins CF dx [("own_source", .ref c)]), ?_, ?_⟩
    · exact ⟨_, rfl, _, rfl, f, CF, dx, _, rfl, hf, T.cl_Feeder, T.no_Feeder_own_source, by simp, rfl, (kp_refl H).up (.inr (by simp)), upd_same⟩
    rintro σ' H1 ⟨rfl, hk1, hf1⟩
    refine ⟨fun σ' H' => σ' = [some (.ref f), some (.ref c), some (.ref b)] ∧ Kp [f] H H' ∧ H' f = some (.ins CF dx [("own_source", .ref c), ("own_book", .ref b)]), ?_, ?_⟩
    · exact ⟨_, rfl, _, rfl, f, CF, dx, _, rfl, hf1, T.cl_Feeder, T.no_Feeder_own_book, by simp, rfl, hk1.up (.inr (by simp)), upd_same⟩
    rintro σ' H2 ⟨rfl, hk2, hf2⟩
    refine ⟨fun σ' H' => σ' = [some (.ref f), some (.ref c), some (.ref b)] ∧ Kp [f] H H' ∧ H' f = some (.ins CF dx [("own_source", .ref c), ("own_book", .ref b), ("own_text", tv [])]), ?_, ?_⟩
    · exact ⟨_, rfl, f, CF, dx, _, rfl, hf2, T.cl_Feeder, T.no_Feeder_own_text, by simp, rfl, hk2.up (.inr (by simp)), upd_same⟩
    rintro σ' H3 ⟨rfl, hk3, hf3⟩
    refine ⟨fun σ' H' => ∃ tp, σ' = [some (.ref f), some (.ref c), some (.ref b)] ∧ Kp [f] H H' ∧ H' f = some (.ins CF dx [("own_source", .ref c), ("own_book", .ref b), ("own_text", tv []), ("own_told", .ref tp)]) ∧ H' tp = some (.tup []), ?_, ?_⟩
    · refine ⟨by show 0 ≤ sizeLine; omega, fun tp htp => ?_⟩
      have nft := ne_of_none hf3 htp
      exact ⟨_, rfl, f, CF, dx, _, rfl, by rw [upd_ne nft]; exact hf3, T.cl_Feeder, T.no_Feeder_own_told, by simp, tp, rfl, (hk3.up (.inl (hk3.free htp (by simpa using nft.symm)))).up (.inr (by simp)), upd_same, by rw [upd_ne nft.symm, upd_same]⟩
    rintro σ' H4 ⟨tp, rfl, hk4, hf4, ht4⟩
    have ntf : tp ≠ f := by
      rintro rfl
      rw [hf4] at ht4
      cases ht4
    refine ⟨fun σ' H' => σ' = [some (.ref f), some (.ref c), some (.ref b)] ∧ Kp [f] H H' ∧ H' f = some (.ins CF dx [("own_source", .ref c), ("own_book", .ref b), ("own_text", tv []), ("own_told", .ref tp), ("own_cut", .int 0)]) ∧ H' tp = some (.tup []), ?_, ?_⟩
    · exact ⟨_, rfl, f, CF, dx, _, rfl, hf4, T.cl_Feeder, T.no_Feeder_own_cut, by simp, rfl, hk4.up (.inr (by simp)), upd_same, by rw [upd_ne ntf]; exact ht4⟩
    rintro σ' H5 ⟨rfl, hk5, hf5, ht5⟩
    refine ⟨fun σ' H' => σ' = [some (.ref f), some (.ref c), some (.ref b)] ∧ Kp [f] H H' ∧ H' f = some (.ins CF dx [("own_source", .ref c), ("own_book", .ref b), ("own_text", tv []), ("own_told", .ref tp), ("own_cut", .int 0), ("own_ended", .bl false)]) ∧ H' tp = some (.tup []), ?_, ?_⟩
    · exact ⟨_, rfl, f, CF, dx, _, rfl, hf5, T.cl_Feeder, T.no_Feeder_own_ended, by simp, rfl, hk5.up (.inr (by simp)), upd_same, by rw [upd_ne ntf]; exact ht5⟩
    rintro σ' H6 ⟨rfl, hk6, hf6, ht6⟩
    refine ⟨by show 0 ≤ sizeLine; omega, fun cp hcp => ?_⟩
    have nfc := ne_of_none hf6 hcp
    have ntc := ne_of_none ht6 hcp
    refine ⟨_, rfl, f, CF, dx, _, rfl, by rw [upd_ne nfc]; exact hf6, T.cl_Feeder, T.no_Feeder_own_calls, by simp, ?_⟩
    refine k _ ⟨dx, tp, cp, [], upd_same, by rw [upd_ne ntf, upd_ne ntc]; exact ht6, by rw [upd_ne nfc.symm, upd_same], Nat.le_refl _⟩ ((hk6.up (.inl (hk6.free hcp (by simpa using nfc.symm)))).up (.inr (by simp)))
def sp_require_open (CF : Addr) : Sp := fun vs H Q _ => ∃ (f c b : Addr) (t : Tx0) (ps : List Tx0) (n nc : Nat), vs = [.ref f] ∧ FeedR CF H f c b t ps n false nc ∧ Q .non H
theorem c_Feeder_require_open (T : Ty K mg CB CC CF) : C8.Met P w K mg base 1 CF "require_open" (sp_require_open CF) [] := by
  refine met_of T.m_Feeder_require_open T.cl_Feeder sc_p_Feeder_require_open (fun _ _ _ _ _ _ us hl => match us, hl with | [_], _ => rfl) (fun vs H Q E h => ?_) (fun cdv A outer g s H vs Q E hr h => ?_)
  · obtain ⟨f, c, b, t, ps, n, nc, rfl, _⟩ := h
    rfl
  · obtain ⟨f, c, b, t, ps, n, nc, rfl, ⟨dx, tp, cp, xs, h⟩, q⟩ := h
    refine ⟨_, (pss_one (ps_if (pt_val (pe_fldK (K := K) rfl (pv 0)))
    (pss_one ps_never)
    pss_nil)), ?_⟩
    exact ⟨_, rfl, _, _, _, _, _, rfl, h.hf, T.cl_Feeder, T.no_Feeder_own_ended, rfl, _, rfl, q⟩
/-! ### what a feeder tells -/
def sp_last_told (CB CC CF : Addr) : Sp := fun vs H Q _ => ∃ (f c b : Addr) (t : Tx0) (ps : List Tx0) (n nc : Nat) (e : Bool) (bk : Bk) (pl : Pl) (u : Tx0), vs = [.ref f, tv u] ∧ FeedR CF H f c b t ps n e nc ∧ CutH CB CC H c bk pl ∧ Ov bk u ∧ u.length ≤ 8000 ∧
  ∀ (l : Addr) (H' : Hp), H l = none → Kp [] H H' → H' l = some (.lst ((cutM pl u).map tv)) → Q (.ref l) H'
theorem c_Feeder_last_told (T : Ty K mg CB CC CF) : C8.Met P w K mg base 3 CF "last_told" (sp_last_told CB CC CF) [] := by
  refine met_of T.m_Feeder_last_told T.cl_Feeder sc_p_Feeder_last_told (fun _ _ _ _ _ _ us hl => match us, hl with | [_, _], _ => rfl) (fun vs H Q E h => ?_) (fun cdv A outer g s H vs Q E hr h => ?_)
  · obtain ⟨f, c, b, t, ps, n, nc, e, bk, pl, u, rfl, _⟩ := h
    rfl
  · obtain ⟨f, c, b, t, ps, n, nc, e, bk, pl, u, rfl, ⟨dx, tp, cp, xs, h⟩, hc, ho, hl, k⟩ := h
    refine ⟨_, (pss_one (ps_ret (C8.pe_mt (c_Cutter_cut_in T) hr (by decide) (pe_fldK (K := K) rfl (pv 0)) (pa_cons (pv 1) pa_nil)))), ?_⟩
    obtain ⟨dxc, ab, o, tb, en, sz, rw0, la, ns, cc⟩ := hc
    exact ⟨_, rfl, _, _, _, _, _, rfl, h.hf, T.cl_Feeder, T.no_Feeder_own_source, rfl, c, dxc, _, rfl, cc.ha, rfl, _, rfl, c, bk, pl, u, rfl, ⟨dxc, ab, o, tb, en, sz, rw0, la, ns, cc⟩, ho, hl, k⟩
def sp_more_told (CB CC CF : Addr) : Sp := fun vs H Q _ => ∃ (f c b : Addr) (t : Tx0) (ps : List Tx0) (n nc : Nat) (e : Bool) (bk : Bk) (pl : Pl) (u v : Tx0), vs = [.ref f, tv u, tv v] ∧ FeedR CF H f c b t ps n e nc ∧ CutH CB CC H c bk pl ∧ Ov bk u ∧ Ov bk v ∧ u.length + v.length ≤ 8000 ∧
  ∀ (l : Addr) (H' : Hp), H l = none → Kp [] H H' → H' l = some (.lst ((runM pl (u ++ v)).1.map tv)) → Q (.ref l) H'
theorem c_Feeder_more_told (T : Ty K mg CB CC CF) : C8.Met P w K mg base 2 CF "more_told" (sp_more_told CB CC CF) [] := by
  refine met_of T.m_Feeder_more_told T.cl_Feeder sc_p_Feeder_more_told (fun _ _ _ _ _ _ us hl => match us, hl with | [_, _, _], _ => rfl) (fun vs H Q E h => ?_) (fun cdv A outer g s H vs Q E hr h => ?_)
  · obtain ⟨f, c, b, t, ps, n, nc, e, bk, pl, u, v, rfl, _⟩ := h
    rfl
  · obtain ⟨f, c, b, t0, ps, n0, nc, e, bk, pl, u, v, rfl, ⟨dx, tp, cp, xs, h⟩, hc, hu, hv, huv, k⟩ := h
    have h3 : sizeLine = 16777216 := sizeLine_eq
    refine ⟨_, (pss_cons (ps_asg (pe_tup (pa_cons (pe_lst pa_nil) (pa_cons pe_int (pa_cons (pe_op op_add_str (pv 1) (pv 2)) (pa_cons (pe_fldK (K := K) rfl (pe_fldK (K := K) rfl (pv 0))) pa_nil))))) (pg_tupK (K := K) (n := 4) rfl (by rfl) (pgs_cons (pg_name (i := 3) sc_p_Feeder_more_told.nd rfl (Or.inl rfl)) (pgs_cons (pg_name (i := 4) sc_p_Feeder_more_told.nd rfl (Or.inl rfl)) (pgs_cons (pg_name (i := 5) sc_p_Feeder_more_told.nd rfl (Or.inl rfl)) (pgs_cons (pg_name (i := 6) sc_p_Feeder_more_told.nd rfl (Or.inl rfl)) pgs_nil))))))
  (pss_cons (ps_while PassesOwn.never (pt_cmpR op_le (pe_op op_add (pv 4) (pv 6)) (pe_callB call_lenT (by rfl) T.n_len (by decide +kernel) (pa_cons (pv 5) pa_nil)) (nomark _))
    (pss_cons (ps_expr (pe_bm PySem.F.plainAttrs_list PySem.F.slot_list_append PySem.F.type_list_append mt_append (pv 3) (pa_cons (C8.pe_mt (c_Cutter_told_by T) hr (by decide) (pe_fldK (K := K) rfl (pv 0)) (pa_cons (pe_slice sl_tx (pv 5) (po_some (pv 4)) (po_some (pe_op op_add (pv 4) (pv 6)))) (pa_cons pe_bl pa_nil))) pa_nil)))
    (pss_one (ps_aug (i := 4) sc_p_Feeder_more_told.nd rfl (Or.inl rfl) (pe_callB call_lenT (by rfl) T.n_len (by decide +kernel) (pa_cons (pe_ix (ix_listK (K := K) rfl) (pv 3) (pe_un un_neg pe_int) (fun _ _ => rfl)) pa_nil)) ip_add))))
  (pss_one (ps_ret (pv 3))))), ?_⟩
    obtain ⟨dxc, ab, o, tb, en, sz, rw0, la, ns, cc⟩ := hc
    have gb := cc.hb.g
    have gp := cc.gp
    have hs1 := gp.s1
    have hs2 := gp.s2
    refine ⟨by show 0 ≤ sizeLine; omega, fun l hl => ?_⟩
    have k1 : Kp [] H (upd H l (.lst [])) := (kp_refl H).up (.inl hl)
    have hl1 : upd H l (.lst []) l = some (.lst []) := upd_same
    generalize upd H l (.lst []) = H1 at k1 hl1
    have f1 := h.kp0 k1
    have c1 := cc.kp0 k1
    refine ⟨_, rfl, _, rfl, _, _, rfl, rfl, by rw [SX.S_len, SX.S_len]; omega, ?_⟩
    rw [SX.S_cat]
    have ho := ov_app hu hv
    have htl : (u ++ v).length ≤ 8000 := by rw [List.length_append]; exact huv
    generalize u ++ v = t at ho htl k
    have hlt : t.length ≤ sizeLine := by omega
    refine ⟨_, rfl, _, _, _, _, _, rfl, f1.hf, T.cl_Feeder, T.no_Feeder_own_source, rfl, _, _, _, _, _, rfl, c1.ha, T.cl_Cutter, T.no_Cutter_own_view, rfl, by show 4 ≤ sizeLine; omega, fun z hz => ?_⟩
    have hl2 : upd H1 z (.tup [.ref l, .int 0, tv t, .int (pl.span : Int)]) l = some (.lst []) := by rw [upd_ne (ne_of_none hl1 hz)]; exact hl1
    have k2 : Kp [] H (upd H1 z (.tup [.ref l, .int 0, tv t, .int (pl.span : Int)])) := k1.up (.inl (k1.free hz (by simp)))
    refine ⟨z, _, rfl, SqT.of upd_same, rfl, _, _, rfl, _, _, rfl, _, _, rfl, _, _, rfl, rfl, ?_⟩
    refine while_by (fun σ H' => ∃ (fs : List Tx0) (n : Nat), σ = [some (.ref f), some (tv u), some (tv v), some (.ref l), some (.int n), some (tv t), some (.int (pl.span : Int))] ∧ runM pl t = (fs ++ (runM pl (t.drop n)).1, (runM pl (t.drop n)).2) ∧ n ≤ t.length ∧ fs.length ≤ n ∧ Kp [] H H' ∧ H' l = some (.lst (fs.map tv)))
      (fun σ _ => t.length - sint σ 4) ⟨[], 0, rfl, rfl, Nat.zero_le _, Nat.le_refl _, k2, hl2⟩ ?_ ?_
    · rintro σ H2 ⟨fs, n, rfl, hcm, hn, hfl, hk, hf1⟩
      have c2 := cc.kp0 hk
      have f2 := h.kp0 hk
      refine ⟨_, rfl, _, rfl, _, _, rfl, rfl, _, rfl, _, rfl, hlt, _, _, rfl, rfl, _, rfl, ?_⟩
      refine ite2 (fun hb => ?_) (fun hb => ?_)
      · have hnl : n + pl.span ≤ t.length := by
          have := of_decide_eq_true hb
          omega
        have hor := ov_drop ho n
        have hsp : pl.span ≤ (t.drop n).length := by rw [List.length_drop]; omega
        have hne : t.drop n ≠ [] := by
          intro e
          rw [e] at hsp
          simp at hsp
          omega
        refine ⟨_, rfl, .inl ⟨rfl, _, SqL.of hf1⟩, _, rfl, _, _, _, _, _, rfl, f2.hf, T.cl_Feeder, T.no_Feeder_own_source, rfl, c, dxc, _, rfl, c2.ha, rfl, _, rfl, _, rfl, _, rfl, _, rfl, _, rfl, _, _, rfl, rfl, _, rfl, _, rfl, hlt, .inr (.inr ⟨n, n + pl.span, rfl, by rw [Int.natCast_add], ?_⟩)⟩
        rw [show n + pl.span - n = pl.span by omega]
        have hwl : ((t.drop n).take pl.span).length ≤ 8000 := by
          rw [List.length_take, List.length_drop]
          omega
        refine ⟨c, bk, pl, (t.drop n).take pl.span, _, rfl, ⟨dxc, ab, o, tb, en, sz, rw0, la, ns, c2⟩, ov_take hor _, take_ne hs1 hne, by omega, fun H3 hk3 => ?_⟩
        have hf2 := hk3 _ _ hf1 (by simp)
        have ec := runM_cons gb gp hor hsp rfl
        have ln := tell_len gb gp (ov_take hor pl.span) (take_ne hs1 hne) false
        generalize tellM pl ((t.drop n).take pl.span) false = p at ec ln
        have ln2 := ln.2
        rw [List.length_take, List.length_drop] at ln2
        refine ⟨l, _, _, rfl, rfl, hf2, ?_, ?_⟩
        · rw [List.length_map]
          omega
        refine ⟨_, rfl, _, rfl, _, rfl, _, _, _, tv p, rfl, rfl, SqL.of upd_same, atI_end _ _, _, rfl, by omega, _, _, rfl, rfl, ?_⟩
        refine ⟨⟨fs ++ [p], n + p.length, by rw [Int.natCast_add]; rfl, ?_, by omega, ?_, ?_, ?_⟩, ?_⟩
        · rw [hcm, ec, List.append_assoc, List.drop_drop]
          rfl
        · rw [List.length_append, List.length_singleton]
          omega
        · exact (hk.trans hk3).up (.inl hl)
        · rw [upd_same, List.map_append]
          rfl
        · show t.length - ((n : Int) + (p.length : Int)).toNat < t.length - (n : Int).toNat
          omega
      · have hsp : (t.drop n).length < pl.span := by
          have : ¬ ((n : Int) + (pl.span : Int) ≤ (t.length : Int)) := fun z => hb (decide_eq_true z)
          rw [List.length_drop]
          omega
        rw [runM_stop hsp, List.append_nil] at hcm
        refine ⟨_, rfl, k l H2 hl hk ?_⟩
        rw [hcm]
        exact hf1
    · intro σ H Q Q' hQ h
      obtain ⟨z1, z2, z3, z4, z5, z6, z7, z8, z9, z10, z11, z12, z13, z14, z15, z16, z17, z18, z19, q⟩ := h
      exact ⟨z1, z2, z3, z4, z5, z6, z7, z8, z9, z10, z11, z12, z13, z14, z15, z16, z17, z18, z19, hQ _ _ q⟩
end
end K75
-- part P13
set_option Elab.async false
set_option linter.all false
set_option maxRecDepth 100000
set_option maxHeartbeats 4000000
namespace K75
open PySem PySem.Spec PyProof.Rows L2
section
variable {P : Program} {w : World} {K : PySem.W.Frag} {mg : Str → Option Value} {base : Heap} {CB CC CF : Addr}
theorem sum_len (qs : List Tx0) : (qs.map fun q => (q.length : Int)).sum = ((qs.flatten.length : Nat) : Int) := by
  induction qs with
  | nil => rfl
  | cons q qs ih => rw [List.map_cons, List.sum_cons, ih, List.flatten_cons, List.length_append, Int.natCast_add]
def sp_go_on (CF : Addr) : Sp := fun vs H Q _ => ∃ (f c b l : Addr) (t s : Tx0) (ps qs : List Tx0) (n nc : Nat) (e e' : Bool), vs = [.ref f, tv s, .ref l, .bl e'] ∧ FeedR CF H f c b t ps n e nc ∧ H l = some (.lst (qs.map tv)) ∧
  t.length + s.length ≤ 8000 ∧ ps.length ≤ 10000 ∧ qs.length ≤ 10000 ∧ (∀ q ∈ qs, q.length ≤ 10000) ∧ nc ≤ 100000 ∧
  ∀ (z : Addr) (H' : Hp), H z = none → FeedR CF H' f c b (t ++ s) (ps ++ qs) (n + qs.flatten.length) e' (nc + 1) → H' z = some (.tup (qs.map tv)) → Kp [f] H H' → Q (.ref z) H'
theorem c_Feeder_go_on (T : Ty K mg CB CC CF) : C8.Met P w K mg base 1 CF "go_on" (sp_go_on CF) [] := by
  refine met_of T.m_Feeder_go_on T.cl_Feeder sc_p_Feeder_go_on (fun _ _ _ _ _ _ us hl => match us, hl with | [_, _, _, _], _ => rfl) (fun vs H Q E h => ?_) (fun cdv A outer g s H vs Q E hr h => ?_)
  · obtain ⟨f, c, b, l, t, s, ps, qs, n, nc, e, e', rfl, _⟩ := h
    rfl
  · obtain ⟨f, c, b, l, t, s, ps, qs, n, nc, e, e', rfl, ⟨dx, tp, cp, xs, h⟩, hl, hts, hps, hqs, hql, hnc, k⟩ := h
    have h3 : sizeLine = 16777216 := sizeLine_eq
    have hxn := h.hn
    have nfl : l ≠ f := by
      rintro rfl
      have := h.hf
      rw [hl] at this
      cases this
    refine ⟨_, (C8.pss_cut (ps_fld (pv 0) (pe_tup (StX.pa_star (pe_fldK (K := K) rfl (pv 0)) (pa_cons (pe_tup (pa_cons (pe_callB call_lenT (by rfl) T.n_len (by decide +kernel) (pa_cons (pe_fldK (K := K) rfl (pv 0)) pa_nil)) (pa_cons (pe_callB call_len_seq (by rfl) T.n_len (by decide +kernel) (pa_cons (pe_fldK (K := K) rfl (pv 0)) pa_nil)) (pa_cons (pe_fldK (K := K) rfl (pv 0)) (pa_cons (pe_fldK (K := K) rfl (pv 0)) pa_nil))))) pa_nil))) rfl)
  (C8.pss_cut (ps_fldaug (pv 0) (pv 1) in_addS)
  (C8.pss_cut (ps_fld (pv 0) (pe_tup (StX.pa_star (pe_fldK (K := K) rfl (pv 0)) (StX.pa_star (pv 2) pa_nil))) rfl)
  (C8.pss_cut (ps_fldaug (pv 0) (pe_callB (cr_sum rfl) (by rfl) T.n_sum (by decide +kernel) (pa_cons (pe_lc (own := [("piece", 4)]) (g := gName 4) rfl sc_p_Feeder_go_on.nd (pi_list (pv 2)) (blkOk_by (own := [("piece", 4)]) (N := N_p_Feeder_go_on) (sc := (defScope s_p_Feeder_go_on)) (by decide +kernel)) (fun _ _ _ _ _ => (pg_name (i := 4) sc_p_Feeder_go_on.nd rfl (Or.inl rfl))) (fun _ _ _ _ _ => pts_nil) (fun _ _ _ _ _ => (pe_callB call_lenT (by rfl) T.n_len (by decide +kernel) (pa_cons (pv 4) pa_nil)))) pa_nil)) in_add)
  (C8.pss_cut (ps_fld (pv 0) (pv 3) rfl)
  (pss_one (ps_ret (pe_callTy call_tuple_of (by rfl) T.n_tuple (by decide +kernel) (pa_cons (pv 2) pa_nil))))))))), ?_⟩
    -- own_calls
    refine ⟨fun σ' H' => ∃ cp xs, σ' = [some (.ref f), some (tv s), some (.ref l), some (.bl e'), none] ∧ Kp [f] H H' ∧ FeedAt CF H' f c b t ps n e (nc + 1) dx tp cp xs ∧ H' l = some (.lst (qs.map tv)), ?_, ?_⟩
    · refine ⟨_, rfl, _, _, _, _, _, rfl, h.hf, T.cl_Feeder, T.no_Feeder_own_calls, rfl, cp, xs, rfl, .inl (SqT.of h.hc), ?_⟩
      refine ⟨_, rfl, _, _, _, _, _, rfl, h.hf, T.cl_Feeder, T.no_Feeder_own_text, rfl, _, rfl, by omega, ?_⟩
      refine ⟨_, rfl, _, _, _, _, _, rfl, h.hf, T.cl_Feeder, T.no_Feeder_own_told, rfl, tp, _, rfl, .inr (SqT.of h.ht), ?_⟩
      refine ⟨_, rfl, _, _, _, _, _, rfl, h.hf, T.cl_Feeder, T.no_Feeder_own_cut, rfl, _, rfl, _, _, _, _, _, rfl, h.hf, T.cl_Feeder, T.no_Feeder_own_ended, rfl, by show 4 ≤ sizeLine; omega, fun z hz => ?_⟩
      have k1 : Kp [] H (upd H z (.tup [.int t.length, .int ((ps.map tv).length : Nat), .int n, .bl e])) := (kp_refl H).up (.inl hz)
      have h1 := h.kp0 k1
      have l1 := k1 _ _ hl (by simp)
      refine ⟨by rw [List.length_append]; show xs.length + 1 ≤ sizeLine; omega, fun y hy => ?_⟩
      have k2 : Kp [] H (upd (upd H z (.tup [.int t.length, .int ((ps.map tv).length : Nat), .int n, .bl e])) y (.tup (xs ++ [.ref z]))) := k1.up (.inl (k1.free hy (by simp)))
      have h2 := h.kp0 k2
      have l2 := k2 _ _ hl (by simp)
      have nyf := ne_of_none h1.hf hy
      have ntf : tp ≠ f := by
        rintro rfl
        have := h.hf
        rw [h.ht] at this
        cases this
      refine ⟨_, rfl, f, CF, dx, _, rfl, h2.hf, T.cl_Feeder, T.no_Feeder_own_calls, by simp, y, _, rfl, (k2.any [f]).up (.inr (by simp)), ⟨upd_same, by rw [upd_ne ntf]; exact h2.ht, by rw [upd_ne nyf.symm, upd_same], ?_⟩, by rw [upd_ne nfl]; exact l2⟩
      rw [List.length_append, List.length_singleton]
      omega
    rintro σ' H1 ⟨cp1, xs1, rfl, hk1, h1, l1⟩
    have nt1 : tp ≠ f := by
      rintro rfl
      have := h1.hf
      rw [h1.ht] at this
      cases this
    have nc1 : cp1 ≠ f := by
      rintro rfl
      have := h1.hf
      rw [h1.hc] at this
      cases this
    -- own_text
    refine ⟨fun σ' H' => σ' = [some (.ref f), some (tv s), some (.ref l), some (.bl e'), none] ∧ Kp [f] H H' ∧ FeedAt CF H' f c b (t ++ s) ps n e (nc + 1) dx tp cp1 xs1 ∧ H' l = some (.lst (qs.map tv)), ?_, ?_⟩
    · refine ⟨_, rfl, f, CF, dx, _, _, rfl, h1.hf, T.cl_Feeder, T.no_Feeder_own_text, rfl, _, rfl, _, _, rfl, rfl, by rw [SX.S_len, SX.S_len]; omega, dx, _, h1.hf, by simp, rfl, hk1.up (.inr (by simp)), ⟨?_, by rw [upd_ne nt1]; exact h1.ht, by rw [upd_ne nc1]; exact h1.hc, h1.hn⟩, by rw [upd_ne nfl]; exact l1⟩
      rw [SX.S_cat]
      exact upd_same
    rintro σ' H2 ⟨rfl, hk2, h2, l2⟩
    -- own_told
    refine ⟨fun σ' H' => ∃ tp, σ' = [some (.ref f), some (tv s), some (.ref l), some (.bl e'), none] ∧ Kp [f] H H' ∧ FeedAt CF H' f c b (t ++ s) (ps ++ qs) n e (nc + 1) dx tp cp1 xs1 ∧ H' l = some (.lst (qs.map tv)), ?_, ?_⟩
    · refine ⟨_, rfl, _, _, _, _, _, rfl, h2.hf, T.cl_Feeder, T.no_Feeder_own_told, rfl, tp, _, rfl, .inl (SqT.of h2.ht), _, rfl, l, _, rfl, .inr (SqL.of l2), ?_, fun y hy => ?_⟩
      · rw [List.length_append, List.length_append, List.length_map, List.length_map]
        show ps.length + (qs.length + 0) ≤ sizeLine
        omega
      · have nfy := ne_of_none h2.hf hy
        have nly := ne_of_none l2 hy
        have ncy := ne_of_none h2.hc hy
        have hy0 : H y = none := hk2.free hy (by simpa using nfy.symm)
        refine ⟨_, rfl, f, CF, dx, _, rfl, by rw [upd_ne nfy]; exact h2.hf, T.cl_Feeder, T.no_Feeder_own_told, by simp, y, rfl, (hk2.up (.inl hy0)).up (.inr (by simp)), ⟨upd_same, ?_, by rw [upd_ne nc1, upd_ne ncy]; exact h2.hc, h2.hn⟩, by rw [upd_ne nfl, upd_ne nly]; exact l2⟩
        rw [upd_ne nfy.symm, upd_same, List.append_nil, List.map_append]
    rintro σ' H3 ⟨tp3, rfl, hk3, h3', l3⟩
    have nt3 : tp3 ≠ f := by
      rintro rfl
      have := h3'.hf
      rw [h3'.ht] at this
      cases this
    -- own_cut
    refine ⟨fun σ' H' => ∃ x, σ' = [some (.ref f), some (tv s), some (.ref l), some (.bl e'), x] ∧ Kp [f] H H' ∧ FeedAt CF H' f c b (t ++ s) (ps ++ qs) (n + qs.flatten.length) e (nc + 1) dx tp3 cp1 xs1 ∧ H' l = some (.lst (qs.map tv)), ?_, ?_⟩
    · refine ⟨_, rfl, f, CF, dx, _, _, rfl, h3'.hf, T.cl_Feeder, T.no_Feeder_own_cut, rfl, ?_⟩
      refine ⟨_, rfl, l, rfl, ⟨_, SqL.of l3⟩, fun D hD => ?_⟩
      have nlD := ne_of_none l3 hD
      have nfD := ne_of_none h3'.hf hD
      have hD0 : H D = none := hk3.free hD (by simpa using nfD.symm)
      refine comp_list qs tv (fun _ => true) (fun q => .int (q.length : Int)) (fun acc => SqL.of (by rw [upd_ne nlD]; exact l3)) (by omega) ?_ ?_
      · intro q hq acc Nx hz n1 n2
        have := hql q hq
        exact ⟨rfl, _, rfl, _, rfl, by omega, acc, upd_same, hz, by rw [upd_upd]; exact n1 rfl⟩
      · have k4 : Kp [] H3 (upd H3 D (.lst ((qs.filter fun _ => true).map fun q => V.int (q.length : Int)))) := (kp_refl H3).up (.inl hD)
        have h4 := h3'.kp0 k4
        have l4 := k4 _ _ l3 (by simp)
        refine ⟨D, qs.map fun q => (q.length : Int), rfl, SqL.of ?_, _, _, rfl, rfl, dx, _, h4.hf, by simp, _, rfl, (hk3.trans (k4.any [f])).up (.inr (by simp)), ⟨?_, by rw [upd_ne nt3]; exact h4.ht, by rw [upd_ne nc1]; exact h4.hc, h4.hn⟩, by rw [upd_ne nfl]; exact l4⟩
        · rw [upd_same, List.filter_eq_self.mpr fun _ _ => rfl]
          simp only [List.map_map]
          rfl
        · rw [sum_len, upd_same]
          show some (HO.ins CF dx _) = some (HO.ins CF dx _)
          rw [Int.natCast_add]
          rfl
    rintro σ' H4 ⟨x4, rfl, hk4, h4, l4⟩
    -- own_ended
    refine ⟨fun σ' H' => σ' = [some (.ref f), some (tv s), some (.ref l), some (.bl e'), x4] ∧ Kp [f] H H' ∧ FeedAt CF H' f c b (t ++ s) (ps ++ qs) (n + qs.flatten.length) e' (nc + 1) dx tp3 cp1 xs1 ∧ H' l = some (.lst (qs.map tv)), ?_, ?_⟩
    · exact ⟨_, rfl, _, rfl, f, CF, dx, _, rfl, h4.hf, T.cl_Feeder, T.no_Feeder_own_ended, by simp, rfl, hk4.up (.inr (by simp)), ⟨upd_same, by rw [upd_ne nt3]; exact h4.ht, by rw [upd_ne nc1]; exact h4.hc, h4.hn⟩, by rw [upd_ne nfl]; exact l4⟩
    rintro σ' H5 ⟨rfl, hk5, h5, l5⟩
    refine ⟨_, rfl, l, _, rfl, .inl ⟨SqL.of l5, fun z hz => ?_⟩⟩
    have nfz := ne_of_none h5.hf hz
    have hz0 : H z = none := hk5.free hz (by simpa using nfz.symm)
    exact k z _ hz0 ⟨dx, tp3, cp1, xs1, h5.kp0 ((kp_refl H5).up (.inl hz))⟩ upd_same (hk5.up (.inl hz0))
end
end K75
-- part P14
set_option Elab.async false
set_option linter.all false
set_option maxRecDepth 100000
set_option maxHeartbeats 4000000
namespace K75
open PySem PySem.Spec PyProof.Rows L2
def psM (pl : Pl) (t : Tx0) (e : Bool) : List Tx0 := if e = true then cutM pl t else (runM pl t).1
def FeedH (CB CC CF : Addr) (H : Hp) (f c : Addr) (bk : Bk) (pl : Pl) (t : Tx0) (e : Bool) (nc : Nat) : Prop :=
  ∃ b, FeedR CF H f c b t (psM pl t e) (psM pl t e).flatten.length e nc ∧ CutH CB CC H c bk pl ∧ BookH CB H b bk ∧ Ov bk t ∧ t.length ≤ 8000
section
variable {CB CC CF f c : Addr} {H H' : Hp} {bk : Bk} {pl : Pl} {t : Tx0} {e : Bool} {nc : Nat} {D : List Addr}
theorem FeedH.kp (h : FeedH CB CC CF H f c bk pl t e nc) (k : Kp D H H') (v : VolAt CF H D) (hD : f ∉ D) (n : CB ≠ CF) (n2 : CC ≠ CF) : FeedH CB CC CF H' f c bk pl t e nc := by
  obtain ⟨b, h1, h2, h3, h4, h5⟩ := h
  exact ⟨b, h1.kp k v hD, h2.kp k v n n2, h3.kp k v n, h4, h5⟩
theorem FeedH.kp0 (h : FeedH CB CC CF H f c bk pl t e nc) (k : Kp [] H H') : FeedH CB CC CF H' f c bk pl t e nc := by
  obtain ⟨b, h1, h2, h3, h4, h5⟩ := h
  exact ⟨b, h1.kp0 k, h2.kp0 k, h3.kp0 k, h4, h5⟩
theorem FeedH.vol (h : FeedH CB CC CF H f c bk pl t e nc) : VolAt CF H [f] := by
  obtain ⟨b, h1, _⟩ := h
  exact vol_feed h1
theorem CutH.g (h : CutH CB CC H c bk pl) : GoodBook bk ∧ GoodPl bk pl := by
  obtain ⟨dx, ab, o, tb, en, sz, rw0, la, ns, h⟩ := h
  exact ⟨h.hb.g, h.gp⟩
theorem rest_eq (g : GoodBook bk) (gp : GoodPl bk pl) (ho : Ov bk t) : t.drop (psM pl t false).flatten.length = (runM pl t).2 := by
  have h := (run_ov g gp ho).2.2.2
  show t.drop (runM pl t).1.flatten.length = _
  have e : ((runM pl t).1.flatten ++ (runM pl t).2).drop (runM pl t).1.flatten.length = (runM pl t).2 := List.drop_left
  rw [h] at e
  exact e
theorem flat_len {ps : List Tx0} (h : ∀ p ∈ ps, 1 ≤ p.length) : ps.length ≤ ps.flatten.length := by
  induction ps with
  | nil => exact Nat.zero_le _
  | cons p ps ih =>
    have h1 := h p (List.mem_cons_self ..)
    have h2 := ih fun q hq => h q (List.mem_cons_of_mem _ hq)
    rw [List.flatten_cons, List.length_append, List.length_cons]
    omega
theorem psM_ok (g : GoodBook bk) (gp : GoodPl bk pl) (ho : Ov bk t) (e : Bool) : (∀ p ∈ psM pl t e, p ∈ pcs bk) ∧ (psM pl t e).flatten.length ≤ t.length ∧ (psM pl t e).length ≤ t.length := by
  have h1 : (∀ p ∈ psM pl t e, p ∈ pcs bk) ∧ (psM pl t e).flatten.length ≤ t.length := by
    unfold psM
    cases e with
    | true =>
      obtain ⟨h1, h2⟩ := cut_ok g gp t.length t (Nat.le_refl _) ho
      rw [if_pos rfl, h2]
      exact ⟨h1, Nat.le_refl _⟩
    | false =>
      rw [if_neg Bool.false_ne_true]
      obtain ⟨_, _, h3, h4⟩ := run_ov g gp ho
      refine ⟨h3, ?_⟩
      have := congrArg List.length h4
      rw [List.length_append] at this
      omega
  refine ⟨h1.1, h1.2, ?_⟩
  have := flat_len fun p hp => (pcs_len g (h1.1 p hp)).1
  omega
end
section
variable {P : Program} {w : World} {K : PySem.W.Frag} {mg : Str → Option Value} {base : Heap} {CB CC CF : Addr}
def sp_Feeder (CB CC CF : Addr) : Sp := fun vs H Q _ => ∃ (f dx c : Addr) (bk : Bk) (pl : Pl), vs = [.ref f, .ref c] ∧ H f = some (.ins CF dx []) ∧ CutH CB CC H c bk pl ∧ ∀ H', FeedH CB CC CF H' f c bk pl [] false 0 → Kp [f] H H' → Q .non H'
theorem c_Feeder (T : Ty K mg CB CC CF) : C8.Mak P w K mg base 2 "Feeder" CF (sp_Feeder CB CC CF) [] := by
  refine mak_of T.i_Feeder sc_p_Feeder___init__ (fun _ _ _ _ _ _ us hl => match us, hl with | [_, _], _ => rfl) (fun vs H Q E h => ?_) (fun cdv A outer g s H vs Q E hr h => ?_)
  · obtain ⟨f, dx, c, bk, pl, rfl, _⟩ := h
    rfl
  · obtain ⟨f, dx, c, bk, pl, rfl, hf, hc, k⟩ := h
    refine ⟨_, (pss_cons (ps_expr (C8.pe_c (c_p_require_cutter T) hr (by decide) (by rfl) (pa_cons (pv 1) pa_nil)))
  (pss_one (ps_expr (C8.pe_mt (c_Feeder_begin T) hr (by decide) (pv 0) (pa_cons (pv 1) (pa_cons (pe_fldK (K := K) rfl (pv 1)) pa_nil)))))), ?_⟩
    have hc0 := hc
    obtain ⟨dxc, ab, o, tb, en, sz, rw0, la, ns, cc⟩ := hc
    refine ⟨_, rfl, c, dxc, _, rfl, cc.ha, _, rfl, f, dx, _, rfl, hf, rfl, _, rfl, _, rfl, _, _, _, _, _, rfl, cc.ha, T.cl_Cutter, T.no_Cutter_own_book, rfl, f, dx, c, ab, rfl, hf, fun H' hfr hk => ?_⟩
    have v : VolAt CF H [f] := fun x hx => by
      rw [List.mem_singleton.mp hx]
      exact ⟨_, hf, .inr ⟨_, _, rfl⟩⟩
    refine k H' ⟨ab, ?_, hc0.kp hk v T.n_BF T.n_CF, cc.hb.kp hk v T.n_BF, ov_nil, Nat.zero_le _⟩ hk
    have e : psM pl [] false = [] := by
      show (runM pl []).1 = []
      rw [runM_stop (show ([] : Tx0).length < pl.span from cc.gp.s1)]
    rw [e]
    exact hfr
/-! ### properties -/
def sp_waiting (CF : Addr) : Sp := fun vs H Q _ => ∃ (f c b : Addr) (t : Tx0) (ps : List Tx0) (n nc : Nat) (e : Bool), vs = [.ref f] ∧ FeedR CF H f c b t ps n e nc ∧ t.length ≤ 8000 ∧ Q (tv (t.drop n)) H
theorem c_Feeder_waiting (T : Ty K mg CB CC CF) : Prp P w K mg base 1 CF "waiting" (sp_waiting CF) := by
  refine prp_of T.p_Feeder_waiting T.cl_Feeder sc_p_Feeder_waiting (fun _ _ _ _ _ _ us hl => match us, hl with | [_], _ => rfl) (fun vs H Q E h => ?_) (fun cdv A outer g s H vs Q E hr h => ?_)
  · obtain ⟨f, c, b, t, ps, n, nc, e, rfl, _⟩ := h
    rfl
  · obtain ⟨f, c, b, t, ps, n, nc, e, rfl, ⟨dx, tp, cp, xs, h⟩, hl, q⟩ := h
    have h3 : sizeLine = 16777216 := sizeLine_eq
    refine ⟨_, (pss_one (ps_ret (pe_slice sl_tx (pe_fldK (K := K) rfl (pv 0)) (po_some (pe_fldK (K := K) rfl (pv 0))) po_none))), ?_⟩
    exact ⟨_, rfl, _, _, _, _, _, rfl, h.hf, T.cl_Feeder, T.no_Feeder_own_text, rfl, _, rfl, _, _, _, _, _, rfl, h.hf, T.cl_Feeder, T.no_Feeder_own_cut, rfl, _, rfl, _, rfl, by omega, .inr (.inl ⟨rfl, n, rfl, q⟩)⟩
def sp_told (CF : Addr) : Sp := fun vs H Q _ => ∃ (f c b dx tp cp : Addr) (t : Tx0) (ps : List Tx0) (n nc : Nat) (e : Bool) (xs : List V), vs = [.ref f] ∧ FeedAt CF H f c b t ps n e nc dx tp cp xs ∧ Q (.ref tp) H
theorem c_Feeder_told (T : Ty K mg CB CC CF) : Prp P w K mg base 1 CF "told" (sp_told CF) := by
  refine prp_of T.p_Feeder_told T.cl_Feeder sc_p_Feeder_told (fun _ _ _ _ _ _ us hl => match us, hl with | [_], _ => rfl) (fun vs H Q E h => ?_) (fun cdv A outer g s H vs Q E hr h => ?_)
  · obtain ⟨f, c, b, dx, tp, cp, t, ps, n, nc, e, xs, rfl, _⟩ := h
    rfl
  · obtain ⟨f, c, b, dx, tp, cp, t, ps, n, nc, e, xs, rfl, h, q⟩ := h
    refine ⟨_, (pss_one (ps_ret (pe_fldK (K := K) rfl (pv 0)))), ?_⟩
    exact ⟨_, rfl, _, _, _, _, _, rfl, h.hf, T.cl_Feeder, T.no_Feeder_own_told, rfl, q⟩
def sp_text (CF : Addr) : Sp := fun vs H Q _ => ∃ (f c b : Addr) (t : Tx0) (ps : List Tx0) (n nc : Nat) (e : Bool), vs = [.ref f] ∧ FeedR CF H f c b t ps n e nc ∧ Q (tv t) H
theorem c_Feeder_text (T : Ty K mg CB CC CF) : Prp P w K mg base 1 CF "text" (sp_text CF) := by
  refine prp_of T.p_Feeder_text T.cl_Feeder sc_p_Feeder_text (fun _ _ _ _ _ _ us hl => match us, hl with | [_], _ => rfl) (fun vs H Q E h => ?_) (fun cdv A outer g s H vs Q E hr h => ?_)
  · obtain ⟨f, c, b, t, ps, n, nc, e, rfl, _⟩ := h
    rfl
  · obtain ⟨f, c, b, t, ps, n, nc, e, rfl, ⟨dx, tp, cp, xs, h⟩, q⟩ := h
    refine ⟨_, (pss_one (ps_ret (pe_fldK (K := K) rfl (pv 0)))), ?_⟩
    exact ⟨_, rfl, _, _, _, _, _, rfl, h.hf, T.cl_Feeder, T.no_Feeder_own_text, rfl, q⟩
def sp_is_ended (CF : Addr) : Sp := fun vs H Q _ => ∃ (f c b : Addr) (t : Tx0) (ps : List Tx0) (n nc : Nat) (e : Bool), vs = [.ref f] ∧ FeedR CF H f c b t ps n e nc ∧ Q (.bl e) H
theorem c_Feeder_is_ended (T : Ty K mg CB CC CF) : Prp P w K mg base 1 CF "is_ended" (sp_is_ended CF) := by
  refine prp_of T.p_Feeder_is_ended T.cl_Feeder sc_p_Feeder_is_ended (fun _ _ _ _ _ _ us hl => match us, hl with | [_], _ => rfl) (fun vs H Q E h => ?_) (fun cdv A outer g s H vs Q E hr h => ?_)
  · obtain ⟨f, c, b, t, ps, n, nc, e, rfl, _⟩ := h
    rfl
  · obtain ⟨f, c, b, t, ps, n, nc, e, rfl, ⟨dx, tp, cp, xs, h⟩, q⟩ := h
    refine ⟨_, (pss_one (ps_ret (pe_fldK (K := K) rfl (pv 0)))), ?_⟩
    exact ⟨_, rfl, _, _, _, _, _, rfl, h.hf, T.cl_Feeder, T.no_Feeder_own_ended, rfl, q⟩
def sp_flen (CF : Addr) : Sp := fun vs H Q _ => ∃ (f c b : Addr) (t : Tx0) (ps : List Tx0) (n nc : Nat) (e : Bool), vs = [.ref f] ∧ FeedR CF H f c b t ps n e nc ∧ Q (.int ps.length) H
theorem c_Feeder_len (T : Ty K mg CB CC CF) : Spc P w K mg base 1 CF "__len__" (sp_flen CF) := by
  refine spc_of T.s_Feeder___len__ sc_p_Feeder___len__ (fun _ _ _ _ _ _ us hl => match us, hl with | [_], _ => rfl) (fun vs H Q E h => ?_) (fun cdv A outer g s H vs Q E hr h => ?_)
  · obtain ⟨f, c, b, t, ps, n, nc, e, rfl, _⟩ := h
    rfl
  · obtain ⟨f, c, b, t, ps, n, nc, e, rfl, ⟨dx, tp, cp, xs, h⟩, q⟩ := h
    refine ⟨_, (pss_one (ps_ret (pe_callB call_len_seq (by rfl) T.n_len (by decide +kernel) (pa_cons (pe_fldK (K := K) rfl (pv 0)) pa_nil)))), ?_⟩
    refine ⟨_, rfl, _, _, _, _, _, rfl, h.hf, T.cl_Feeder, T.no_Feeder_own_told, rfl, tp, _, rfl, .inr (SqT.of h.ht), ?_⟩
    show Q (.int ((ps.map tv).length : Nat)) H
    rw [List.length_map]
    exact q
def sp_fbool (CF : Addr) : Sp := fun vs H Q _ => ∃ (f c b : Addr) (t : Tx0) (ps : List Tx0) (n nc : Nat) (e : Bool), vs = [.ref f] ∧ FeedR CF H f c b t ps n e nc ∧ Q (.bl (!e)) H
theorem c_Feeder_bool (T : Ty K mg CB CC CF) : Spc P w K mg base 1 CF "__bool__" (sp_fbool CF) := by
  refine spc_of T.s_Feeder___bool__ sc_p_Feeder___bool__ (fun _ _ _ _ _ _ us hl => match us, hl with | [_], _ => rfl) (fun vs H Q E h => ?_) (fun cdv A outer g s H vs Q E hr h => ?_)
  · obtain ⟨f, c, b, t, ps, n, nc, e, rfl, _⟩ := h
    rfl
  · obtain ⟨f, c, b, t, ps, n, nc, e, rfl, ⟨dx, tp, cp, xs, h⟩, q⟩ := h
    refine ⟨_, (pss_one (ps_ret (pe_not (pe_fldK (K := K) rfl (pv 0))))), ?_⟩
    exact ⟨_, rfl, _, _, _, _, _, rfl, h.hf, T.cl_Feeder, T.no_Feeder_own_ended, rfl, _, rfl, q⟩
def sp_spent (CB CC CF : Addr) : Sp := fun vs H Q _ => ∃ (f c : Addr) (bk : Bk) (pl : Pl) (t : Tx0) (nc : Nat) (e : Bool), vs = [.ref f] ∧ FeedH CB CC CF H f c bk pl t e nc ∧ ∀ H', Kp [] H H' → Q (.int (cost bk (psM pl t e))) H'
theorem c_Feeder_spent (T : Ty K mg CB CC CF) : Prp P w K mg base 1 CF "spent" (sp_spent CB CC CF) := by
  refine prp_of T.p_Feeder_spent T.cl_Feeder sc_p_Feeder_spent (fun _ _ _ _ _ _ us hl => match us, hl with | [_], _ => rfl) (fun vs H Q E h => ?_) (fun cdv A outer g s H vs Q E hr h => ?_)
  · obtain ⟨f, c, bk, pl, t, nc, e, rfl, _⟩ := h
    rfl
  · obtain ⟨f, c, bk, pl, t, nc, e, rfl, ⟨b, ⟨dx, tp, cp, xs, h⟩, hc, hb, ho, hl⟩, k⟩ := h
    have h3 : sizeLine = 16777216 := sizeLine_eq
    obtain ⟨gb, gp⟩ := hc.g
    obtain ⟨m1, m2, m3⟩ := psM_ok gb gp ho e
    generalize psM pl t e = ps at h k m1 m2 m3
    refine ⟨_, (pss_one (ps_ret (pe_callB (cr_sum rfl) (by rfl) T.n_sum (by decide +kernel) (pa_cons (pe_lc (own := [("piece", 1)]) (g := gName 1) rfl sc_p_Feeder_spent.nd (pi_tup (pe_fldK (K := K) rfl (pv 0))) (blkOk_by (own := [("piece", 1)]) (N := N_p_Feeder_spent) (sc := (defScope s_p_Feeder_spent)) (by decide +kernel)) (fun _ _ _ _ _ => (pg_name (i := 1) sc_p_Feeder_spent.nd rfl (Or.inl rfl))) (fun _ _ _ _ _ => pts_nil) (fun _ _ _ _ _ => (pe_dget (hu1 hr) (pe_fldK (K := K) rfl (pe_fldK (K := K) rfl (pv 0))) (pv 1) (fun _ _ => rfl)))) pa_nil)))), ?_⟩
    refine ⟨_, rfl, _, _, _, _, _, rfl, h.hf, T.cl_Feeder, T.no_Feeder_own_told, rfl, tp, rfl, ⟨_, SqT.of h.ht⟩, fun D hD => ?_⟩
    have ntD := ne_of_none h.ht hD
    have kD : ∀ acc, Kp [] H (upd H D (.lst acc)) := fun acc => (kp_refl H).up (.inl hD)
    refine comp_tup ps tv (fun _ => true) (fun p => .int ((getA bk p).getD 0)) (fun acc => SqT.of (by rw [upd_ne ntD]; exact h.ht)) (by omega) ?_ ?_
    · intro p hp acc Nx hz n1 n2
      obtain ⟨n, hn⟩ := getA_pcs gb (m1 p hp)
      have f2 := h.kp0 (kD acc)
      obtain ⟨dxb, d, p0, al, ac, lg, de, b2⟩ := hb.kp0 (kD acc)
      refine ⟨rfl, _, rfl, _, _, _, _, _, rfl, f2.hf, T.cl_Feeder, T.no_Feeder_own_book, rfl, _, _, _, _, _, rfl, b2.ha, T.cl_Book, T.no_Book_own_prices, rfl, _, rfl, d, .int n, rfl, dget_S b2.hd hn, acc, upd_same, hz, ?_⟩
      rw [upd_upd]
      have := n1 rfl
      rw [hn] at this
      exact this
    · refine ⟨D, ps.map fun p => (getA bk p).getD 0, rfl, SqL.of ?_, ?_⟩
      · rw [upd_same, List.filter_eq_self.mpr fun _ _ => rfl]
        simp only [List.map_map]
        rfl
      · exact k _ ((kp_refl H).up (.inl hD))
end
end K75
-- part P15
set_option Elab.async false
set_option linter.all false
set_option maxRecDepth 100000
set_option maxHeartbeats 4000000
namespace K75
open PySem PySem.Spec PyProof.Rows L2
section
variable {P : Program} {w : World} {K : PySem.W.Frag} {mg : Str → Option Value} {base : Heap} {CB CC CF : Addr}
def sp_feed (CB CC CF : Addr) : Sp := fun vs H Q _ => ∃ (f c : Addr) (bk : Bk) (pl : Pl) (t s : Tx0) (nc : Nat), vs = [.ref f, tv s] ∧ FeedH CB CC CF H f c bk pl t false nc ∧ Ov bk s ∧ t.length + s.length ≤ 8000 ∧ nc ≤ 100000 ∧
  ∀ (z : Addr) (H' : Hp), H z = none → FeedH CB CC CF H' f c bk pl (t ++ s) false (nc + 1) → H' z = some (.tup ((runM pl ((runM pl t).2 ++ s)).1.map tv)) → Kp [f] H H' → Q (.ref z) H'
theorem c_Feeder_feed (T : Ty K mg CB CC CF) : C8.Met P w K mg base 5 CF "feed" (sp_feed CB CC CF) [] := by
  refine met_of T.m_Feeder_feed T.cl_Feeder sc_p_Feeder_feed (fun _ _ _ _ _ _ us hl => match us, hl with | [_, _], _ => rfl) (fun vs H Q E h => ?_) (fun cdv A outer g s H vs Q E hr h => ?_)
  · obtain ⟨f, c, bk, pl, t, s, nc, rfl, _⟩ := h
    rfl
  · obtain ⟨f, c, bk, pl, t, s, nc, rfl, hF, hs, hts, hnc, k⟩ := h
    have h3 : sizeLine = 16777216 := sizeLine_eq
    refine ⟨_, (pss_cons (ps_expr (C8.pe_c (c_p_require_text T) hr (by decide) (by rfl) (pa_cons (pe_fldK (K := K) rfl (pv 0)) (pa_cons (pv 1) pa_nil))))
  (pss_cons (ps_expr (C8.pe_mt0 (c_Feeder_require_open T) hr (by decide) (pv 0)))
  (pss_cons (ps_if (pt_cmpR op_gt (pe_op op_add (pe_callB call_lenT (by rfl) T.n_len (by decide +kernel) (pa_cons (pe_fldK (K := K) rfl (pv 0)) pa_nil)) (pe_callB call_lenT (by rfl) T.n_len (by decide +kernel) (pa_cons (pv 1) pa_nil))) (C8.pe_gc (v := .int 8000) (by rfl) (gi T.g_MAX_FED)) (nomark _))
    (pss_one ps_never)
    pss_nil)
  (pss_one (ps_ret (C8.pe_mt (c_Feeder_go_on T) hr (by decide) (pv 0) (pa_cons (pv 1) (pa_cons (C8.pe_mt (c_Feeder_more_told T) hr (by decide) (pv 0) (pa_cons (pe_pr (c_Feeder_waiting T) hr (by decide) (pv 0)) (pa_cons (pv 1) pa_nil))) (pa_cons pe_bl pa_nil))))))))), ?_⟩
    obtain ⟨b, ⟨dx, tp, cp, xs, h⟩, hc, hb, ho, hl⟩ := hF
    obtain ⟨gb, gp⟩ := hc.g
    obtain ⟨m1, m2, m3⟩ := psM_ok gb gp ho false
    refine ⟨_, rfl, _, _, _, _, _, rfl, h.hf, T.cl_Feeder, T.no_Feeder_own_book, rfl, _, rfl, b, bk, s, rfl, hb, hs, by omega, fun H1 hk1 => ?_⟩
    have h1 := h.kp0 hk1
    refine ⟨_, rfl, f, dx, _, rfl, h1.hf, rfl, f, c, b, t, _, _, nc, rfl, ⟨dx, tp, cp, xs, h1⟩, ?_⟩
    refine ⟨_, rfl, _, _, _, _, _, rfl, h1.hf, T.cl_Feeder, T.no_Feeder_own_text, rfl, _, rfl, by omega, _, rfl, _, rfl, by omega, _, _, rfl, rfl, _, _, rfl, rfl, _, rfl, iteF' (decide_eq_false (by omega)) ?_⟩
    have hc1 := hc.kp0 hk1
    refine ⟨_, rfl, f, dx, _, rfl, h1.hf, rfl, _, rfl, _, rfl, f, dx, _, rfl, h1.hf, rfl, _, rfl, f, dx, _, rfl, h1.hf, f, c, b, t, _, _, nc, false, rfl, ⟨dx, tp, cp, xs, h1⟩, hl, ?_⟩
    rw [rest_eq gb gp ho]
    obtain ⟨r1, r2, r3, r4⟩ := run_ov gb gp ho
    have hrl : (runM pl t).2.length ≤ t.length := by
      have := congrArg List.length r4
      rw [List.length_append] at this
      omega
    refine ⟨_, rfl, f, c, b, t, _, _, nc, false, bk, pl, (runM pl t).2, s, rfl, ⟨dx, tp, cp, xs, h1⟩, hc1, r2, hs, by omega, fun l H2 hl2 hk2 hl2' => ?_⟩
    have h2 := h1.kp0 hk2
    have hq := run_ov gb gp (ov_app r2 hs)
    have hql : (runM pl ((runM pl t).2 ++ s)).1.length ≤ 8000 := by
      have e1 := flat_len fun p hp => (pcs_len gb (hq.2.2.1 p hp)).1
      have e2 := congrArg List.length hq.2.2.2
      rw [List.length_append, List.length_append] at e2
      omega
    refine ⟨f, c, b, l, t, s, psM pl t false, (runM pl ((runM pl t).2 ++ s)).1, _, nc, false, false, rfl, ⟨dx, tp, cp, xs, h2⟩, hl2', hts, by omega, by omega, fun q hq2 => ?_, hnc, fun z H3 hz hF hz' hk3 => ?_⟩
    · have := pcs_len gb (hq.2.2.1 q hq2)
      omega
    · have kk : Kp [f] H H3 := ((hk1.trans hk2).any [f]).trans hk3
      have v : VolAt CF H [f] := fun x hx => by
        rw [List.mem_singleton.mp hx]
        exact ⟨_, h.hf, .inr ⟨_, _, rfl⟩⟩
      refine k z H3 ((hk1.trans hk2).free hz (by simp)) ⟨b, ?_, hc.kp kk v T.n_BF T.n_CF, hb.kp kk v T.n_BF, ov_app ho hs, by rw [List.length_append]; omega⟩ hz' kk
      have e : psM pl (t ++ s) false = psM pl t false ++ (runM pl ((runM pl t).2 ++ s)).1 := by
        show (runM pl (t ++ s)).1 = (runM pl t).1 ++ _
        rw [run_app gb gp ho hs]
      rw [e, List.flatten_append, List.length_append]
      exact hF
def sp_end (CB CC CF : Addr) : Sp := fun vs H Q _ => ∃ (f c : Addr) (bk : Bk) (pl : Pl) (t : Tx0) (nc : Nat), vs = [.ref f] ∧ FeedH CB CC CF H f c bk pl t false nc ∧ nc ≤ 100000 ∧
  ∀ (z : Addr) (H' : Hp), H z = none → FeedH CB CC CF H' f c bk pl t true (nc + 1) → H' z = some (.tup ((cutM pl (runM pl t).2).map tv)) → Kp [f] H H' → Q (.ref z) H'
theorem c_Feeder_end (T : Ty K mg CB CC CF) : C8.Met P w K mg base 4 CF "end" (sp_end CB CC CF) [] := by
  refine met_of T.m_Feeder_end T.cl_Feeder sc_p_Feeder_end (fun _ _ _ _ _ _ us hl => match us, hl with | [_], _ => rfl) (fun vs H Q E h => ?_) (fun cdv A outer g s H vs Q E hr h => ?_)
  · obtain ⟨f, c, bk, pl, t, nc, rfl, _⟩ := h
    rfl
  · obtain ⟨f, c, bk, pl, t, nc, rfl, hF, hnc, k⟩ := h
    have h3 : sizeLine = 16777216 := sizeLine_eq
    refine ⟨_, (pss_cons (ps_expr (C8.pe_mt0 (c_Feeder_require_open T) hr (by decide) (pv 0)))
  (pss_one (ps_ret (C8.pe_mt (c_Feeder_go_on T) hr (by decide) (pv 0) (pa_cons pe_str (pa_cons (C8.pe_mt (c_Feeder_last_told T) hr (by decide) (pv 0) (pa_cons (pe_pr (c_Feeder_waiting T) hr (by decide) (pv 0)) pa_nil)) (pa_cons pe_bl pa_nil))))))), ?_⟩
    obtain ⟨b, ⟨dx, tp, cp, xs, h⟩, hc, hb, ho, hl⟩ := hF
    obtain ⟨gb, gp⟩ := hc.g
    obtain ⟨m1, m2, m3⟩ := psM_ok gb gp ho false
    refine ⟨_, rfl, f, dx, _, rfl, h.hf, rfl, f, c, b, t, _, _, nc, rfl, ⟨dx, tp, cp, xs, h⟩, ?_⟩
    refine ⟨_, rfl, f, dx, _, rfl, h.hf, rfl, _, rfl, f, dx, _, rfl, h.hf, rfl, _, rfl, f, dx, _, rfl, h.hf, f, c, b, t, _, _, nc, false, rfl, ⟨dx, tp, cp, xs, h⟩, hl, ?_⟩
    rw [rest_eq gb gp ho]
    obtain ⟨r1, r2, r3, r4⟩ := run_ov gb gp ho
    have hrl : (runM pl t).2.length ≤ t.length := by
      have := congrArg List.length r4
      rw [List.length_append] at this
      omega
    refine ⟨f, c, b, t, _, _, nc, false, bk, pl, (runM pl t).2, rfl, ⟨dx, tp, cp, xs, h⟩, hc, r2, by omega, fun l H2 hl2 hk2 hl2' => ?_⟩
    have h2 := h.kp0 hk2
    have hq := cut_ok gb gp _ _ (Nat.le_refl _) r2
    have hql := cut_len gb gp r2
    refine ⟨f, c, b, l, t, [], psM pl t false, cutM pl (runM pl t).2, _, nc, false, true, rfl, ⟨dx, tp, cp, xs, h2⟩, hl2', by simpa using hl, by omega, by omega, fun q hq2 => ?_, hnc, fun z H3 hz hF hz' hk3 => ?_⟩
    · have := pcs_len gb (hq.1 q hq2)
      omega
    · have kk : Kp [f] H H3 := (hk2.any [f]).trans hk3
      have v : VolAt CF H [f] := fun x hx => by
        rw [List.mem_singleton.mp hx]
        exact ⟨_, h.hf, .inr ⟨_, _, rfl⟩⟩
      refine k z H3 (hk2.free hz (by simp)) ⟨b, ?_, hc.kp kk v T.n_BF T.n_CF, hb.kp kk v T.n_BF, ho, hl⟩ hz' kk
      have e : psM pl t true = psM pl t false ++ cutM pl (runM pl t).2 := by
        show cutM pl t = (runM pl t).1 ++ _
        exact cut_run gb gp ho
      rw [List.append_nil] at hF
      rw [e, List.flatten_append, List.length_append]
      exact hF
def sp_fbehind (CB CC CF : Addr) : Sp := fun vs H Q _ => ∃ (f c : Addr) (bk : Bk) (pl : Pl) (t : Tx0) (nc : Nat) (e : Bool), vs = [.ref f] ∧ FeedH CB CC CF H f c bk pl t e nc ∧
  ∀ (u v : Int) (H' : Hp), Kp [] H H' → Cheap bk (t.drop (psM pl t e).flatten.length) u → Cheap bk t v → Q (.int (cost bk (psM pl t e) + u - v)) H'
theorem c_Feeder_behind (T : Ty K mg CB CC CF) : C8.Met P w K mg base 3 CF "behind" (sp_fbehind CB CC CF) [] := by
  refine met_of T.m_Feeder_behind T.cl_Feeder sc_p_Feeder_behind (fun _ _ _ _ _ _ us hl => match us, hl with | [_], _ => rfl) (fun vs H Q E h => ?_) (fun cdv A outer g s H vs Q E hr h => ?_)
  · obtain ⟨f, c, bk, pl, t, nc, e, rfl, _⟩ := h
    rfl
  · obtain ⟨f, c, bk, pl, t, nc, e, rfl, hF, k⟩ := h
    have h3 : sizeLine = 16777216 := sizeLine_eq
    refine ⟨_, (pss_cons (ps_par (i := 1) (j := 2) (by rfl) sc_p_Feeder_behind.nd rfl rfl (by decide) rfl rfl (pa_cons (C8.pe_c (c_p_cheapest_price_in T) hr (by decide) (by rfl) (pa_cons (pe_fldK (K := K) rfl (pv 0)) (pa_cons (pe_pr (c_Feeder_waiting T) hr (by decide) (pv 0)) pa_nil))) (pa_cons (C8.pe_c (c_p_cheapest_price_in T) hr (by decide) (by rfl) (pa_cons (pe_fldK (K := K) rfl (pv 0)) (pa_cons (pe_fldK (K := K) rfl (pv 0)) pa_nil))) pa_nil)) (by rfl))
  (pss_one (ps_ret (pe_op op_sub (pe_op op_add (pe_pr (c_Feeder_spent T) hr (by decide) (pv 0)) (pv 1)) (pv 2))))), ?_⟩
    have hF0 := hF
    obtain ⟨b, ⟨dx, tp, cp, xs, h⟩, hc, hb, ho, hl⟩ := hF
    refine ⟨_, rfl, _, _, _, _, _, rfl, h.hf, T.cl_Feeder, T.no_Feeder_own_book, rfl, _, rfl, f, dx, _, rfl, h.hf, f, c, b, t, _, _, nc, e, rfl, ⟨dx, tp, cp, xs, h⟩, hl, ?_⟩
    refine ⟨b, bk, _, rfl, hb, ov_drop ho _, by rw [List.length_drop]; omega, fun u H1 hk1 hu => ?_⟩
    have h1 := h.kp0 hk1
    have hb1 := hb.kp0 hk1
    refine ⟨_, rfl, _, _, _, _, _, rfl, h1.hf, T.cl_Feeder, T.no_Feeder_own_book, rfl, _, rfl, _, _, _, _, _, rfl, h1.hf, T.cl_Feeder, T.no_Feeder_own_text, rfl, b, bk, t, rfl, hb1, ho, by omega, fun v H2 hk2 hv => ?_⟩
    have h2 := h1.kp0 hk2
    refine ⟨_, _, rfl, _, rfl, f, dx, _, rfl, h2.hf, f, c, bk, pl, t, nc, e, rfl, hF0.kp0 (hk1.trans hk2), fun H3 hk3 => ?_⟩
    exact ⟨_, rfl, _, _, rfl, rfl, _, rfl, _, _, rfl, rfl, k u v H3 ((hk1.trans hk2).trans hk3) hu hv⟩
def sp_Feeder_eq (CB CC CF : Addr) : Sp := fun vs H Q _ => ∃ (f o c b b' : Addr) (bk : Bk) (pl : Pl) (t t' : Tx0) (ps ps' : List Tx0) (n n' nc nc' : Nat) (e e' : Bool), vs = [.ref f, .ref o] ∧ FeedR CF H f c b t ps n e nc ∧ FeedR CF H o c b' t' ps' n' e' nc' ∧ CutH CB CC H c bk pl ∧ Q (.bl (decide (t = t') && (e == e'))) H
theorem c_Feeder_eq (T : Ty K mg CB CC CF) : Spc P w K mg base 5 CF "__eq__" (sp_Feeder_eq CB CC CF) := by
  refine spc_of T.s_Feeder___eq__ sc_p_Feeder___eq__ (fun _ _ _ _ _ _ us hl => match us, hl with | [_, _], _ => rfl) (fun vs H Q E h => ?_) (fun cdv A outer g s H vs Q E hr h => ?_)
  · obtain ⟨f, o, c, b, b', bk, pl, t, t', ps, ps', n, n', nc, nc', e, e', rfl, _⟩ := h
    rfl
  · obtain ⟨f, o, c, b, b', bk, pl, t, t', ps, ps', n, n', nc, nc', e, e', rfl, ⟨dx, tp, cp, xs, h⟩, ⟨dx', tp', cp', xs', h'⟩, hc, q⟩ := h
    refine ⟨_, (pss_cons (ps_if (PW.pt (pw_or (pt_not (pt_val (pe_callB (cr_isC T.is_Feeder) (by rfl) T.n_isinstance (by decide +kernel) (pa_cons (pv 1) (pa_cons (pe_glob (v := .ref CF) (by rfl) T.g_Feeder rfl) pa_nil))))) (pw_or1 (pt_cmpR (op_neO (c_Cutter_eq T) T.ne_Cutter hr (by decide)) (pe_fldK (K := K) rfl (pv 0)) (pe_fldK (K := K) rfl (pv 1)) (nomark _)))))
    (pss_one (ps_ret pe_bl))
    pss_nil)
  (pss_one (ps_ret (pe_and (pe_cmpR op_eq (pe_fldK (K := K) rfl (pv 0)) (pe_fldK (K := K) rfl (pv 1)) (nomark _)) (pe_one (pe_cmpR op_eq (pe_fldK (K := K) rfl (pv 0)) (pe_fldK (K := K) rfl (pv 1)) (nomark _))))))), ?_⟩
    have hc0 := hc
    obtain ⟨dxc, ab, od, tb, en, sz, rw0, la, ns, cc⟩ := hc
    refine ⟨_, rfl, o, dx', _, rfl, h'.hf, _, rfl, ?_⟩
    refine ⟨_, rfl, _, _, _, _, _, rfl, h.hf, T.cl_Feeder, T.no_Feeder_own_source, rfl, _, rfl, _, _, _, _, _, rfl, h'.hf, T.cl_Feeder, T.no_Feeder_own_source, rfl, c, c, dxc, dxc, _, _, rfl, rfl, cc.ha, cc.ha, c, bk, pl, rfl, hc0, true, rfl, _, rfl, ?_⟩
    refine ⟨_, rfl, _, _, _, _, _, rfl, h.hf, T.cl_Feeder, T.no_Feeder_own_text, rfl, _, rfl, _, _, _, _, _, rfl, h'.hf, T.cl_Feeder, T.no_Feeder_own_text, rfl, rfl, _, rfl, ?_⟩
    have et : decide (tv t = tv t') = decide (t = t') := by
      rw [decide_eq_decide]
      exact ⟨fun z => SX.S_inj (V.str.inj z), fun z => by rw [z]⟩
    rw [et]
    by_cases z : t = t'
    · refine iteT' (decide_eq_true z) ⟨_, rfl, _, _, _, _, _, rfl, h.hf, T.cl_Feeder, T.no_Feeder_own_ended, rfl, _, rfl, _, _, _, _, _, rfl, h'.hf, T.cl_Feeder, T.no_Feeder_own_ended, rfl, rfl, ?_⟩
      rw [decide_eq_true z, Bool.true_and] at q
      show Q (.bl (decide (V.bl e = V.bl e'))) H
      have : decide (V.bl e = V.bl e') = (e == e') := by cases e <;> cases e' <;> rfl
      rw [this]
      exact q
    · refine iteF' (decide_eq_false z) ?_
      rw [decide_eq_false z] at q
      exact q
def sp_iadd (CB CC CF : Addr) : Sp := fun vs H Q _ => ∃ (f c : Addr) (bk : Bk) (pl : Pl) (t s : Tx0) (nc : Nat), vs = [.ref f, tv s] ∧ FeedH CB CC CF H f c bk pl t false nc ∧ Ov bk s ∧ t.length + s.length ≤ 8000 ∧ nc ≤ 100000 ∧
  ∀ (H' : Hp), FeedH CB CC CF H' f c bk pl (t ++ s) false (nc + 1) → Kp [f] H H' → Q (.ref f) H'
theorem c_Feeder_iadd (T : Ty K mg CB CC CF) : Spc P w K mg base 6 CF "__iadd__" (sp_iadd CB CC CF) := by
  refine spc_of T.s_Feeder___iadd__ sc_p_Feeder___iadd__ (fun _ _ _ _ _ _ us hl => match us, hl with | [_, _], _ => rfl) (fun vs H Q E h => ?_) (fun cdv A outer g s H vs Q E hr h => ?_)
  · obtain ⟨f, c, bk, pl, t, s, nc, rfl, _⟩ := h
    rfl
  · obtain ⟨f, c, bk, pl, t, s, nc, rfl, hF, hs, hts, hnc, k⟩ := h
    refine ⟨_, (pss_cons (ps_expr (C8.pe_mt (c_Feeder_feed T) hr (by decide) (pv 0) (pa_cons (pv 1) pa_nil)))
  (pss_one (ps_ret (pv 0)))), ?_⟩
    have hF0 := hF
    obtain ⟨b, ⟨dx, tp, cp, xs, h⟩, _⟩ := hF
    exact ⟨_, rfl, f, dx, _, rfl, h.hf, rfl, _, rfl, f, c, bk, pl, t, s, nc, rfl, hF0, hs, hts, hnc, fun z H' _ hF' _ hk => ⟨_, rfl, k H' hF' hk⟩⟩
end
end K75
-- part L1
set_option Elab.async false
set_option linter.all false
set_option maxRecDepth 100000
set_option maxHeartbeats 4000000
namespace K75
open PySem PySem.Spec PyProof.Rows L2
section
variable {P : Program} {w : World} {K : PySem.W.Frag} {mg : Str → Option Value} {base : Heap} {CB CC CF : Addr}
theorem len_Cutter : ∀ (vs : List V) (H : Hp) (Q : VK) (E : XK), sp_Cutter CB CC vs H Q E → vs.length = (["self", "book", "order", "view", "table", "ends"] : List Str).length := by
  intro vs H Q E h
  obtain ⟨a, dx, b, o, vv, vt, ve, bk, pl, rfl, _⟩ := h
  rfl
/-- Cutter(book, order, view = .., table = .., ends = ..) -/
theorem mk_full (T : Ty K mg CB CC CF) : ∃ f fd, Mk K CC f ∧ FnOk P w K mg base CX0 6 f fd ["self", "book", "order", "view", "table", "ends"] (sp_Cutter CB CC) ∧ mg "Cutter" = some (.ref CC) ∧
    ∃ (g : List Value → List Value → List Value), KBn K fd ["self", "book", "order", "view", "table", "ends"] 3 ["view", "table", "ends"] g (fun vs zs => vs ++ zs) := by
  obtain ⟨f, fd, h1, F, h2⟩ := T.i_Cutter
  refine ⟨f, fd, h1, fnOk_of F sc_p_Cutter___init__ len_Cutter (b_Cutter T), h2, ?_⟩
  obtain ⟨mv, h⟩ := F.kbinds0 (ps := ["self", "book", "order", "view", "table", "ends"]) 3 ["view", "table", "ends"] [] (fun us _ ws => us ++ ws) (by simp) (fun q hq => by cases hq) (fun a _ c => a.append c) (fun D doc pm an cdv ct us mv ws l1 l2 l3 => by
    match us, mv, ws, l1, l2, l3 with
    | [x, y, z], [], [u, v, w], _, _, _ => exact (rfl : _ = _))
  exact ⟨_, h⟩
/-- Cutter(book, order, view = ..) -/
theorem mk_view (T : Ty K mg CB CC CF) : ∃ f fd, Mk K CC f ∧ FnOk P w K mg base CX0 6 f fd ["self", "book", "order", "view", "table", "ends"] (sp_Cutter CB CC) ∧ mg "Cutter" = some (.ref CC) ∧
    ∃ (g : List Value → List Value → List Value), KBn K fd ["self", "book", "order", "view", "table", "ends"] 3 ["view"] g (fun vs zs => vs ++ zs ++ [.non, .non]) := by
  obtain ⟨f, fd, h1, F, h2⟩ := T.i_Cutter
  refine ⟨f, fd, h1, fnOk_of F sc_p_Cutter___init__ len_Cutter (b_Cutter T), h2, ?_⟩
  obtain ⟨mv, h⟩ := F.kbinds0 (ps := ["self", "book", "order", "view", "table", "ends"]) 3 ["view"] [("table", .non), ("ends", .non)] (fun us mv ws => us ++ ws ++ mv) (by simp) (fun q hq => by
      simp only [List.mem_cons, List.not_mem_nil, or_false] at hq ⊢
      rcases hq with h | h <;> rw [h] <;> simp) (fun a b c => (a.append c).append b) (fun D doc pm an cdv ct us mv ws l1 l2 l3 => by
    match us, mv, ws, l1, l2, l3 with
    | [x, y, z], [u, v], [w], _, _, _ => exact ⟨_, _, _, _, _, _, rfl, rfl, _, _, _, _, _, _, rfl, rfl, rfl⟩)
  exact ⟨_, h⟩
/-- cls(book, order) -/
theorem mk_pos (T : Ty K mg CB CC CF) : C8.Mak P w K mg base 6 "Cutter" CC (sp_Cutter CB CC) [.non, .non, .non] := by
  obtain ⟨f, fd, h1, F, h2⟩ := T.i_Cutter
  obtain ⟨ds, hv, hb⟩ := F.binds0 (ps := ["self", "book", "order", "view", "table", "ends"]) 3 (by simp) rfl (fun D doc pm an cdv ct us ks l1 l2 => by
    match us, ks, l1, l2 with
    | [x, y, z], [u, v, w], _, _ => exact ⟨_, _, _, _, _, _, rfl, rfl, _, _, _, _, _, _, rfl, rfl, _, _, _, _, _, _, rfl, rfl, rfl⟩)
  exact ⟨f, fd, _, ds, h1, fnOk_of F sc_p_Cutter___init__ len_Cutter (b_Cutter T), h2, hb, hv⟩
end
end K75
-- part G1
set_option Elab.async false
set_option linter.all false
set_option maxRecDepth 100000
set_option maxHeartbeats 4000000
namespace K75
open PySem PySem.Spec PyProof.Rows L2
/-! a promise for calls under which no repr is under way -/
def FnGR (P : Program) (w : World) (K : PySem.W.Frag) (mg : Str → Option Value) (base : Heap) (k : Nat) (f : Addr) (sp : Sp) : Prop :=
  ∀ (A : Around) (outer : List Env) (s : Shared) (H : Hp) (us : List Value) (vs : List V) (Q : VK) (E : XK), A.guards = some [] → Room k A → Env0 P w K mg base A outer s H → Vals vs us → sp vs H Q E →
    codeAny (model P w) A (.call (.ref f) ⟨us, []⟩) (CR CX0 outer P w H s Q E) s
def CalG (P : Program) (w : World) (K : PySem.W.Frag) (mg : Str → Option Value) (base : Heap) (k : Nat) (x : Str) (sp : Sp) : Prop :=
  ∃ f, mg x = some (.ref f) ∧ PySem.W.keepIn K (.ref f) = true ∧ FnGR P w K mg base k f sp
section
variable {P : Program} {w : World} {K : PySem.W.Frag} {mg : Str → Option Value} {base : Heap} {x qual : Str} {st : Stmt} {N ps : List Str} {k : Nat} {sp : Sp}
abbrev BodyG (P : Program) (w : World) (K : PySem.W.Frag) (mg : Str → Option Value) (base : Heap) (qual : Str) (st : Stmt) (N : List Str) (k : Nat) (sp : Sp) : Prop :=
  ∀ (cdv : Value) (A : Around) (outer : List Env) (f : Addr) (s : Shared) (H : Hp) (vs : List V) (Q : VK) (E : XK), A.guards = some [] → Room k (A.deeper (envOfC qual (defScope st) s.heap.objs.size f cdv)) → sp vs H Q E →
      ∃ t, PSs (cxOf CX0 P w K mg base N qual (defScope st) f cdv A outer s H E).nox (defBody st) t ∧ t { nx := fun _ H' => Q .non H', rt := Q } (start N vs) H
theorem fnGR_of {f : Addr} {fd : FuncData} (F : FunD K x qual (defArgs st) (defBody st) (defScope st) [] [] f fd) (S : FnScope N ps (defScope st)) (hb : BindAll x qual st ps) (len : ∀ vs H Q E, sp vs H Q E → vs.length = ps.length)
    (hbody : BodyG P w K mg base qual st N k sp) : FnGR P w K mg base (k + 1) f sp := by
  have bd := F.bindsN hb
  obtain ⟨oc, od, dV, kV, doc, pm, an, cdv, ct, osl, rfl, lk, hcd, _, _⟩ := F.ex
  intro A outer s H us vs Q E hg hr e0 r hsp
  refine StX.run_bnd lk hcd S hr e0 (G := fun ys H2 => ys = vs ∧ H2 = H) (fun A' Ex Q' go => ?_) fun s2 H2 ys ⟨e1, e2⟩ hr2 => ?_
  · have hl : (us ++ ([] : List Value)).length = ps.length := by
      rw [List.append_nil, ← r.length]
      exact len _ _ _ _ hsp
    have := bd s us (e0.mod.kin.keeps fun b o e => (e0.bs b o e).1) hl
    rw [List.append_nil] at this
    exact this _ _ _ _ (go s H vs us e0 Un.refl rfl (fun e s' h => h) r (len _ _ _ _ hsp) ⟨rfl, rfl⟩)
  · subst e1
    subst e2
    obtain ⟨t, ht, q⟩ := hbody cdv A outer f s2 H2 ys Q E hg hr2 hsp
    exact ⟨t, ht.nox, q⟩
theorem calG_of (F : DefF K mg x st) (S : FnScope N ps (defScope st)) (hb : BindAll x x st ps) (len : ∀ vs H Q E, sp vs H Q E → vs.length = ps.length) (hbody : BodyG P w K mg base x st N k sp) : CalG P w K mg base (k + 1) x sp := by
  obtain ⟨f, fd, F, hm⟩ := F
  exact ⟨f, hm, F.kp, fnGR_of F S hb len hbody⟩
end
section
variable {X : Cx} {k j : Nat} {x : Str} {sp : Sp} {p pos : Pos} {e : Expr} {es : List Expr} {t : TA}
theorem pe_cg (c : CalG X.prog X.w X.K X.mg X.base k x sp) (hg0 : X.A.guards = some []) (hr : Room j X.A) (hk : k ≤ j) (hg : Gl X x) (ha : PA X (e :: es) t)
    (hdb : (x == ("__debug__" : Str)) = false := by decide) (he : starEach (e :: es) X.env = (false, eval e X.env) :: starEach es X.env := by rfl) (hpl : (backTo pos (starEach es X.env)).any (·.1) = false := by rfl) :
    PE X (.Call (.Name x p) (e :: es) [] pos) (fun σ H Q => t σ H fun vs H1 => sp vs H1 Q E0) := by
  refine ⟨fun pins s σ H Q I h => ?_⟩
  obtain ⟨f, hm, kp, F⟩ := c
  refine wpAny_Call_Name_kw (ld_glob I hg hm ?_ hdb)
  refine PySem.W.callWith_K (h₀ := X.base) I.ok.mod.kin kp (thn (ha.run pos pins s σ _ _ I h) fun us s2 ⟨vs, H2, I2, r, q⟩ => ⟨I2.kIn, ?_⟩) he hpl
  refine wpAny_call (codeAny_mono (F X.A X.stack s2 H2 us vs Q E0 hg0 (hr.mono hk) I2.env0 r q) fun r s' hq => ?_)
  cases r with
  | error er => exact pass0 pins σ H2 s2 er s' I2 hq
  | ok fl =>
    cases fl with
    | ret u => exact I2.after hq
    | next => exact False.elim hq
    | brk => exact False.elim hq
    | cont => exact False.elim hq
end
end K75
-- part L3
set_option Elab.async false
set_option linter.all false
set_option maxRecDepth 100000
set_option maxHeartbeats 4000000
namespace K75
open PySem PySem.Spec PyProof.Rows L2
/-! ### repr of what a feeder tells -/
theorem log_small {n : Nat} (h : n < 10 ^ 12) : n.log2 < 1920 ∧ n.log2 ≤ 40 := by
  by_cases e : n = 0
  · subst e
    exact ⟨by decide, by decide⟩
  · have h1 : n.log2 < 40 := (Nat.log2_lt e).mpr (Nat.lt_of_lt_of_le h (by decide))
    omega
theorem show_all (ts : List Tx0) : PyData.showableAll (dTx ts) = true := by
  induction ts with
  | nil => rfl
  | cons t ts ih =>
    show PyData.showableAll (.str (SX.S t) :: dTx ts) = true
    simp only [PyData.showableAll, PyData.showable, Bool.true_and]
    exact ih
theorem short_all (ts : List Tx0) : PyData.intsShortAll 13 (dTx ts) = true := by
  induction ts with
  | nil => rfl
  | cons t ts ih =>
    show PyData.intsShortAll 13 (.str (SX.S t) :: dTx ts) = true
    simp only [PyData.intsShortAll, PyData.intsShort, Bool.true_and]
    exact ih
theorem weigh_all (ts : List Tx0) : PyData.weightAll (dTx ts) = ts.flatten.length + ts.length := by
  induction ts with
  | nil => rfl
  | cons t ts ih =>
    show PyData.weightAll (.str (SX.S t) :: dTx ts) = _
    simp only [PyData.weightAll, PyData.weight, List.flatten_cons, List.length_append, List.length_cons]
    rw [ih]
    have : (SX.S t).cps.size = t.length := SX.S_len t
    rw [this]
    omega
abbrev dRow (ps : List Tx0) (r t : Tx0) (n : Int) (e : Bool) (m : Int) (b : Bool) : PyData := .list [.tuple (dTx ps), .str (SX.S r), .str (SX.S t), .int n, .bool e, .int m, .bool b]
theorem row_ok {ps : List Tx0} {r t : Tx0} {n : Int} {e : Bool} {m : Int} {b : Bool} (hp : ∀ p ∈ ps, Lt p) (hr : Lt r) (ht : Lt t) (hf : ps.flatten.length ≤ 8000) (hl : ps.length ≤ 8000) (h1 : r.length ≤ 8000) (h2 : t.length ≤ 8000) (hn : n.natAbs < 10 ^ 12) (hm : m.natAbs < 10 ^ 12) :
    (dRow ps r t n e m b).canLay0 = true ∧ (dRow ps r t n e m b).depth ≤ 30 ∧ (dRow ps r t n e m b).showable = true ∧ (dRow ps r t n e m b).shown.length ≤ sizeLine := by
  have a1 := (texts_lay ps hp).1
  have a2 := (texts_lay ps hp).2
  have c1 : (dRow ps r t n e m b).canLay0 = true := by simp only [PyData.canLay0, PyData.canLayAll0, a1, lt_ok hr, lt_ok ht, Bool.and_true]
  have c2 : (dRow ps r t n e m b).depth ≤ 3 := by
    simp only [PyData.depth, PyData.depthAll]
    omega
  refine ⟨c1, by omega, ?_, ?_⟩
  · simp only [PyData.showable, PyData.showableAll, show_all, (log_small hn).1, (log_small hm).1, decide_true, Bool.and_true]
  · refine PyData.shown_fits_of_layable0 (B := 13) (by decide) (by decide) ?_ ?_
    · unfold PyData.layable0
      rw [c1, decide_eq_true (show (dRow ps r t n e m b).depth ≤ 64 by omega), Bool.true_and, Bool.true_and]
      refine decide_eq_true ?_
      have w1 := weigh_all ps
      have w2 : (SX.S r).cps.size = r.length := SX.S_len r
      have w3 : (SX.S t).cps.size = t.length := SX.S_len t
      have l1 := (log_small hn).2
      have l2 := (log_small hm).2
      simp only [PyData.weight, PyData.weightAll]
      rw [w1, w2, w3]
      split <;> split <;> omega
    · simp only [PyData.intsShort, PyData.intsShortAll, short_all, decide_eq_true (PyData.shown_int_le hn), decide_eq_true (PyData.shown_int_le hm), Bool.and_true]
theorem int_ok {n : Int} (hn : n.natAbs < 10 ^ 12) : (PyData.int n).canLay0 = true ∧ (PyData.int n).depth ≤ 30 ∧ (PyData.int n).showable = true ∧ (PyData.int n).shown.length ≤ sizeLine := by
  have h3 : sizeLine = 16777216 := sizeLine_eq
  refine ⟨by simp only [PyData.canLay0], by simp [PyData.depth], ?_, ?_⟩
  · simp only [PyData.showable, (log_small hn).1, decide_true]
  · have := PyData.shown_int_le hn
    omega
/-! ### bounds -/
theorem cost_bound {bk : Bk} (g : GoodBook bk) {ps : List Tx0} (h : ∀ p ∈ ps, p ∈ pcs bk) : 0 ≤ cost bk ps ∧ cost bk ps ≤ 99 * (ps.length : Int) := by
  induction ps with
  | nil => exact ⟨Int.le_refl _, Int.le_refl _⟩
  | cons p ps ih =>
    obtain ⟨a, b⟩ := ih fun q hq => h q (List.mem_cons_of_mem _ hq)
    obtain ⟨n, hn⟩ := getA_pcs g (h p (List.mem_cons_self ..))
    have hp := g.pr _ (getA_some hn)
    unfold cost at a b ⊢
    rw [List.map_cons, List.sum_cons, hn, List.length_cons]
    simp only [Option.getD_some]
    omega
theorem cost_perm {bk bl : Bk} (g : GoodBook bk) (h : bl.Perm bk) (ps : List Tx0) : cost bl ps = cost bk ps := by
  unfold cost
  congr 1
  exact List.map_congr_left fun p _ => by rw [getA_perm h g.nd]
theorem dp_bound {bk : Bk} {t : Tx0} {fs : List Int} (g : GoodBook bk) (ho : Ov bk t) (h : DPok bk t fs) (hl : fs.length ≤ t.length + 1) : ∀ (s : Nat) (v : Int), fs[s]? = some v → 0 ≤ v ∧ v ≤ 99 * (s : Int) := by
  intro s
  induction s using Nat.strongRecOn with
  | _ s ih =>
    intro v hv
    by_cases h0 : s = 0
    · subst h0
      rw [h.zero] at hv
      rw [← Option.some.inj hv]
      exact ⟨Int.le_refl _, Int.le_refl _⟩
    · have hs := (List.getElem?_eq_some_iff.mp hv).1
      obtain ⟨m, e, ⟨p, hp, hf, u, hu, em⟩, mn⟩ := h.step s (by omega) hs
      rw [hv] at e
      have e := Option.some.inj e
      have hpl := g.ln p hp
      have hpp := g.pr p hp
      have b1 := (ih (s - p.1.length) (by omega) u hu).1
      obtain ⟨c, hc⟩ : ∃ c, t[s - 1]? = some c := ⟨_, List.getElem?_eq_getElem (by omega)⟩
      obtain ⟨q, hq, eq⟩ := List.mem_map.mp (ho c (List.mem_of_getElem? hc))
      obtain ⟨z, hz⟩ : ∃ z, fs[s - 1]? = some z := ⟨_, List.getElem?_eq_getElem (by omega)⟩
      have b2 := (ih (s - 1) (by omega) z hz).2
      have hqp := g.pr q hq
      have := mn (z + q.2) ⟨q, hq, by
        rw [eq]
        have := fin_one hc
        rw [show s - 1 + 1 = s by omega] at this
        exact this, z, by rw [eq]; exact hz, rfl⟩
      omega
theorem cheap_bound {bk : Bk} {t : Tx0} {v : Int} (g : GoodBook bk) (ho : Ov bk t) (h : Cheap bk t v) : 0 ≤ v ∧ v ≤ 99 * (t.length : Int) := by
  obtain ⟨fs, h1, h2, h3⟩ := h
  exact dp_bound g ho h1 (by omega) _ _ h3
theorem ov_perm {bk bl : Bk} {t : Tx0} (h : bl.Perm bk) (ho : Ov bk t) : Ov bl t := fun c hc => (h.map _).mem_iff.mpr (ho c hc)
end K75
-- part L4
set_option Elab.async false
set_option linter.all false
set_option maxRecDepth 100000
set_option maxHeartbeats 4000000
namespace K75
open PySem PySem.Spec PyProof.Rows L2
section
variable {P : Program} {w : World} {K : PySem.W.Frag} {mg : Str → Option Value} {base : Heap} {CB CC CF : Addr}
theorem GoodTb.perm {bk bl : Bk} {n : Nat} {m : Tb} (h : bl.Perm bk) (g : GoodTb bk n m) : GoodTb bl n m :=
  ⟨g.nd, g.le, fun p hp => ov_perm h (g.ov p hp), g.ln, fun p hp => (h.map _).mem_iff.mpr (g.pc p hp), g.bg⟩
theorem GoodPl.perm {bk bl : Bk} {pl : Pl} (h : bl.Perm bk) (g : GoodPl bk pl) : GoodPl bl pl :=
  ⟨g.od.trans (h.map _).symm, g.s1, g.s2, g.rw.perm h, g.la.perm h⟩
/-! ### the program's cutter, made of the plain one -/
def sp_cutter_of (CB CC : Addr) : Sp := fun vs H Q _ => ∃ (b q o rr l : Addr) (bl : Bk) (pl : Pl), vs = [.ref b, .ref q] ∧ BookH CB H b bl ∧ PlH H q o rr l pl ∧ GoodPl bl pl ∧
  ∀ (c : Addr) (H' : Hp), H c = none → CutH CB CC H' c bl pl → Kp [] H H' → Q (.ref c) H'
theorem c_cutter_of (T : Ty K mg CB CC CF) : C8.Cal P w K mg base 8 "_law_cutter_of" (sp_cutter_of CB CC) [] := by
  refine cal_of T.d_cutter_of sc_cutter_of (fun _ _ _ _ _ _ us hl => match us, hl with | [_, _], _ => rfl) (fun vs H Q E h => ?_) (fun cdv A outer f s H vs Q E hr h => ?_)
  · obtain ⟨b, q, o, rr, l, bl, pl, rfl, _⟩ := h
    rfl
  · obtain ⟨b, q, o, rr, l, bl, pl, rfl, hb, hp, gp, k⟩ := h
    obtain ⟨f0, fd, M, F, hm, g0, hkb⟩ := mk_full (P := P) (w := w) (base := base) T
    refine ⟨_, (pss_cons (ps_set (i := 2) sc_cutter_of.nd rfl (Or.inl rfl) (pe_callTy call_tuple_of (by rfl) T.n_tuple (by decide +kernel) (pa_cons (pe_dget (hu1 hr) (pv 1) pe_str (fun _ _ => rfl)) pa_nil)))
  (pss_one (ps_ret (pe_makeK M F (hr.mono (by decide)) (by rfl) hm hkb pass0 (pa_cons (pv 0) (pa_cons (pv 2) pa_nil)) (pk_cons (pe_dget (hu1 hr) (pv 1) pe_str (fun _ _ => rfl)) (pk_cons (pe_dget (hu1 hr) (pv 1) pe_str (fun _ _ => rfl)) (pk_cons (pe_dget (hu1 hr) (pv 1) pe_str (fun _ _ => rfl)) pk_nil))))))), ?_⟩
    refine ⟨_, rfl, _, _, rfl, hp.g_order, o, _, rfl, .inl ⟨SqL.of hp.ho, fun t ht => ?_⟩⟩
    have hk1 : Kp [] H (upd H t (.tup (pl.order.map tv))) := (kp_refl H).up (.inl ht)
    have ht1 : upd H t (.tup (pl.order.map tv)) t = some (.tup (pl.order.map tv)) := upd_same
    generalize upd H t (.tup (pl.order.map tv)) = H1 at hk1 ht1
    have hp1 := hp.kp0 hk1
    refine ⟨_, rfl, _, rfl, _, rfl, _, _, rfl, hp1.g_span, _, rfl, _, _, rfl, hp1.g_rows, _, rfl, _, _, rfl, hp1.g_last, rfl, rfl, fun x dx hx hdx hne => ?_⟩
    have hk2 : Kp [] H1 (upd (upd H1 dx (.own x)) x (.ins CC dx [])) := ((kp_refl H1).up (.inl hdx)).up (.inl hx)
    have hx2 : upd (upd H1 dx (.own x)) x (.ins CC dx []) x = some (.ins CC dx []) := upd_same
    generalize upd (upd H1 dx (.own x)) x (.ins CC dx []) = H2 at hk2 hx2
    have hp2 := hp1.kp0 hk2
    have hx0 : H x = none := hk1.free hx (by simp)
    refine ⟨x, dx, b, t, _, _, _, bl, pl, rfl, hx2, (hb.kp0 hk1).kp0 hk2, hk2 _ _ ht1 (by simp), gp, .inl rfl, .inl ⟨rr, rfl, hp2.hr⟩, .inl ⟨l, rfl, hp2.hl⟩, fun H3 hc hk3 => ⟨rfl, k x H3 hx0 hc ?_⟩⟩
    intro a u ha _
    have h1 := hk2 a u (hk1 a u ha (by simp)) (by simp)
    refine hk3 a u h1 ?_
    intro e
    rw [List.mem_singleton.mp e, hx0] at ha
    cases ha
end
end K75
-- part L5
set_option Elab.async false
set_option linter.all false
set_option maxRecDepth 100000
set_option maxHeartbeats 4000000
namespace K75
open PySem PySem.Spec PyProof.Rows L2
section
variable {P : Program} {w : World} {K : PySem.W.Frag} {mg : Str → Option Value} {base : Heap} {CB CC CF : Addr}
def sp_is_told (CB CC CF : Addr) : Sp := fun vs H Q _ => ∃ (f d tl c : Addr) (bk bl : Bk) (pl : Pl) (t : Tx0) (e : Bool) (nc : Nat), vs = [.ref f, .ref d, .ref tl, tv (t.drop (psM pl t e).flatten.length), tv t, .bl e] ∧
  FeedH CB CC CF H f c bl pl t e nc ∧ H d = some (.dK (dB bk)) ∧ GoodBook bk ∧ bl.Perm bk ∧ H tl = some (.lst ((psM pl t e).map tv)) ∧ ∀ H', Kp [] H H' → Q (.bl true) H'
theorem c_is_told (T : Ty K mg CB CC CF) : CalG P w K mg base 4 "_law_is_told" (sp_is_told CB CC CF) := by
  refine calG_of T.d_is_told sc_is_told (fun _ _ _ _ _ _ us hl => match us, hl with | [_, _, _, _, _, _], _ => rfl) (fun vs H Q E h => ?_) (fun cdv A outer f s H vs Q E hg hr h => ?_)
  · obtain ⟨f, d, tl, c, bk, bl, pl, t, e, nc, rfl, _⟩ := h
    rfl
  · obtain ⟨f, d, tl, c, bk, bl, pl, t, e, nc, rfl, hF, hd, gk, hbl, htl, k⟩ := h
    have h3 : sizeLine = 16777216 := sizeLine_eq
    have hg0 : (A.deeper (envOfC "_law_is_told" (defScope s_is_told) s.heap.objs.size f cdv)).guards = some [] := hg
    refine ⟨_, (pss_cons (ps_set (i := 6) sc_is_told.nd rfl (Or.inl rfl) (pe_callB (cr_sum rfl) (by rfl) T.n_sum (by decide +kernel) (pa_cons (pe_lc (own := [("piece", 10)]) (g := gName 10) rfl sc_is_told.nd (pi_list (pv 2)) (blkOk_by (own := [("piece", 10)]) (N := N_is_told) (sc := (defScope s_is_told)) (by decide +kernel)) (fun _ _ _ _ _ => (pg_name (i := 10) sc_is_told.nd rfl (Or.inl rfl))) (fun _ _ _ _ _ => pts_nil) (fun _ _ _ _ _ => (pe_dget (hu1 hr) (pv 1) (pv 10) (fun _ _ => rfl)))) pa_nil)))
  (pss_cons (ps_set (i := 7) sc_is_told.nd rfl (Or.inl rfl) (pe_lst (pa_cons (pe_callTy call_tuple_of (by rfl) T.n_tuple (by decide +kernel) (pa_cons (pv 2) pa_nil)) (pa_cons (pv 3) (pa_cons (pv 4) (pa_cons (pv 6) (pa_cons (pv 5) (pa_cons (pe_callB call_len_seq (by rfl) T.n_len (by decide +kernel) (pa_cons (pv 2) pa_nil)) (pa_cons (pe_not (pv 5)) pa_nil)))))))))
  (pss_cons (ps_set (i := 8) sc_is_told.nd rfl (Or.inl rfl) (pe_lst (pa_cons (pe_pr (c_Feeder_told T) hr (by decide) (pv 0)) (pa_cons (pe_pr (c_Feeder_waiting T) hr (by decide) (pv 0)) (pa_cons (pe_pr (c_Feeder_text T) hr (by decide) (pv 0)) (pa_cons (pe_pr (c_Feeder_spent T) hr (by decide) (pv 0)) (pa_cons (pe_pr (c_Feeder_is_ended T) hr (by decide) (pv 0)) pa_nil)))))))
  (pss_cons (ps_if (pt_cmpR op_ne (pe_callB (call_repr hg0 hr.units) (by rfl) T.n_repr (by decide +kernel) (pa_cons (pe_op op_cat (pv 8) (pe_lst (pa_cons (pe_callB (cr_lenO (c_Feeder_len T) hr (by decide)) (by rfl) T.n_len (by decide +kernel) (pa_cons (pv 0) pa_nil)) (pa_cons (pe_callTy (cr_boolO (c_Feeder_bool T) hr (by decide)) (by rfl) T.n_bool (by decide +kernel) (pa_cons (pv 0) pa_nil)) pa_nil)))) pa_nil)) (pe_callB (call_repr hg0 hr.units) (by rfl) T.n_repr (by decide +kernel) (pa_cons (pv 7) pa_nil)) (nomark _))
    (pss_one (ps_ret pe_bl))
    pss_nil)
  (pss_cons (ps_set (i := 9) sc_is_told.nd rfl (Or.inl rfl) (pe_op op_sub (pe_op op_add (pv 6) (pe_ix (ix_listK (K := K) rfl) (C8.pe_c (c_prices_along T.toTx) hr (by decide) (by rfl) (pa_cons (pv 1) (pa_cons (pv 3) pa_nil))) (pe_un un_neg pe_int) (fun _ _ => rfl))) (pe_ix (ix_listK (K := K) rfl) (C8.pe_c (c_prices_along T.toTx) hr (by decide) (by rfl) (pa_cons (pv 1) (pa_cons (pv 4) pa_nil))) (pe_un un_neg pe_int) (fun _ _ => rfl))))
  (pss_one (ps_ret (pe_cmpR op_eq (pe_callB (call_repr hg0 hr.units) (by rfl) T.n_repr (by decide +kernel) (pa_cons (C8.pe_mt0 (c_Feeder_behind T) hr (by decide) (pv 0)) pa_nil)) (pe_callB (call_repr hg0 hr.units) (by rfl) T.n_repr (by decide +kernel) (pa_cons (pv 9) pa_nil)) (nomark _))))))))), ?_⟩
    have hF0 := hF
    obtain ⟨b, ⟨dx, tp, cp, xs, h⟩, hc, hb, ho, hl⟩ := hF
    obtain ⟨gb, gp⟩ := hc.g
    obtain ⟨m1, m2, m3⟩ := psM_ok gb gp ho e
    have hol : Ov bk t := ov_perm hbl.symm ho
    have lt_t := ov_lt gb ho
    have lt_r := ov_lt gb (ov_drop ho (psM pl t e).flatten.length)
    have lt_p : ∀ p ∈ psM pl t e, Lt p := fun p hp => ov_lt gb (pcs_ov gb (m1 p hp))
    have hrl : (t.drop (psM pl t e).flatten.length).length ≤ 8000 := by rw [List.length_drop]; omega
    have hcb := cost_bound gb m1
    -- paid
    refine ⟨_, rfl, tl, rfl, ⟨_, SqL.of htl⟩, fun D hD => ?_⟩
    have nlD := ne_of_none htl hD
    have ndD := ne_of_none hd hD
    refine comp_list (psM pl t e) tv (fun _ => true) (fun p => .int ((getA bk p).getD 0)) (fun acc => SqL.of (by rw [upd_ne nlD]; exact htl)) (by omega) ?_ ?_
    · intro p hp acc Nx hz n1 n2
      obtain ⟨n, hn⟩ := getA_pcs gk ((hbl.map _).mem_iff.mp (m1 p hp))
      refine ⟨rfl, _, rfl, _, rfl, d, .int n, rfl, dget_S (by rw [upd_ne ndD]; exact hd) hn, acc, upd_same, hz, ?_⟩
      rw [upd_upd]
      have := n1 rfl
      rw [hn] at this
      exact this
    have hk1 : Kp [] H (upd H D (.lst (((psM pl t e).filter fun _ => true).map fun p => V.int ((getA bk p).getD 0)))) := (kp_refl H).up (.inl hD)
    refine ⟨D, (psM pl t e).map fun p => (getA bk p).getD 0, rfl, SqL.of ?_, ?_⟩
    · rw [upd_same, List.filter_eq_self.mpr fun _ _ => rfl]
      simp only [List.map_map]
      rfl
    have ecost : ((psM pl t e).map fun p => (getA bk p).getD 0).sum = cost bl (psM pl t e) := (cost_perm gk hbl _).symm
    rw [ecost]
    generalize upd H D (.lst (((psM pl t e).filter fun _ => true).map fun p => V.int ((getA bk p).getD 0))) = H1 at hk1
    have htl1 := hk1 _ _ htl (by simp)
    -- due
    refine ⟨_, rfl, tl, _, rfl, .inl ⟨SqL.of htl1, fun tq htq => ?_⟩⟩
    have hk2 : Kp [] H (upd H1 tq (.tup ((psM pl t e).map tv))) := hk1.up (.inl (hk1.free htq (by simp)))
    have htq2 : upd H1 tq (.tup ((psM pl t e).map tv)) tq = some (.tup ((psM pl t e).map tv)) := upd_same
    generalize upd H1 tq (.tup ((psM pl t e).map tv)) = H2 at hk2 htq2
    have htl2 := hk2 _ _ htl (by simp)
    refine ⟨_, rfl, _, rfl, _, rfl, _, rfl, _, rfl, tl, _, rfl, .inl (SqL.of htl2), _, rfl, _, rfl, by show 7 ≤ sizeLine; omega, fun du hdu => ?_⟩
    rw [List.length_map]
    have hk3 : Kp [] H (upd H2 du (.lst [.ref tq, tv (t.drop (psM pl t e).flatten.length), tv t, .int (cost bl (psM pl t e)), .bl e, .int ((psM pl t e).length : Nat), .bl (!e)])) := hk2.up (.inl (hk2.free hdu (by simp)))
    have hdu3 : upd H2 du (.lst [.ref tq, tv (t.drop (psM pl t e).flatten.length), tv t, .int (cost bl (psM pl t e)), .bl e, .int ((psM pl t e).length : Nat), .bl (!e)]) du = some (.lst [.ref tq, tv (t.drop (psM pl t e).flatten.length), tv t, .int (cost bl (psM pl t e)), .bl e, .int ((psM pl t e).length : Nat), .bl (!e)]) := upd_same
    have htq3 : upd H2 du (.lst [.ref tq, tv (t.drop (psM pl t e).flatten.length), tv t, .int (cost bl (psM pl t e)), .bl e, .int ((psM pl t e).length : Nat), .bl (!e)]) tq = some (.tup ((psM pl t e).map tv)) := by rw [upd_ne (ne_of_none htq2 hdu)]; exact htq2
    generalize upd H2 du (.lst [.ref tq, tv (t.drop (psM pl t e).flatten.length), tv t, .int (cost bl (psM pl t e)), .bl e, .int ((psM pl t e).length : Nat), .bl (!e)]) = H3 at hk3 hdu3 htq3
    -- row
    have f3 := h.kp0 hk3
    have F3 := hF0.kp0 hk3
    refine ⟨_, rfl, f, dx, _, rfl, f3.hf, f, c, b, dx, tp, cp, t, _, _, nc, e, xs, rfl, f3, ?_⟩
    refine ⟨_, rfl, f, dx, _, rfl, f3.hf, f, c, b, t, _, _, nc, e, rfl, ⟨dx, tp, cp, xs, f3⟩, hl, ?_⟩
    refine ⟨_, rfl, f, dx, _, rfl, f3.hf, f, c, b, t, _, _, nc, e, rfl, ⟨dx, tp, cp, xs, f3⟩, ?_⟩
    refine ⟨_, rfl, f, dx, _, rfl, f3.hf, f, c, bl, pl, t, nc, e, rfl, F3, fun H4 hk34 => ?_⟩
    have hk4 := hk3.trans hk34
    have f4 := h.kp0 hk4
    refine ⟨_, rfl, f, dx, _, rfl, f4.hf, f, c, b, t, _, _, nc, e, rfl, ⟨dx, tp, cp, xs, f4⟩, by show 5 ≤ sizeLine; omega, fun ro hro => ?_⟩
    have hk5 : Kp [] H (upd H4 ro (.lst [.ref tp, tv (t.drop (psM pl t e).flatten.length), tv t, .int (cost bl (psM pl t e)), .bl e])) := hk4.up (.inl (hk4.free hro (by simp)))
    have hro5 : upd H4 ro (.lst [.ref tp, tv (t.drop (psM pl t e).flatten.length), tv t, .int (cost bl (psM pl t e)), .bl e]) ro = some (.lst [.ref tp, tv (t.drop (psM pl t e).flatten.length), tv t, .int (cost bl (psM pl t e)), .bl e]) := upd_same
    have hdu5 := (hk34.up (o := .lst [.ref tp, tv (t.drop (psM pl t e).flatten.length), tv t, .int (cost bl (psM pl t e)), .bl e]) (.inl (hk34.free hro (by simp)))) _ _ hdu3 (by simp)
    have htq5 := (hk34.up (o := .lst [.ref tp, tv (t.drop (psM pl t e).flatten.length), tv t, .int (cost bl (psM pl t e)), .bl e]) (.inl (hk34.free hro (by simp)))) _ _ htq3 (by simp)
    generalize upd H4 ro (.lst [.ref tp, tv (t.drop (psM pl t e).flatten.length), tv t, .int (cost bl (psM pl t e)), .bl e]) = H5 at hk5 hro5 hdu5 htq5
    have f5 := h.kp0 hk5
    refine ⟨_, rfl, _, rfl, f, dx, _, rfl, f5.hf, f, c, b, t, _, _, nc, e, rfl, ⟨dx, tp, cp, xs, f5⟩, (psM pl t e).length, rfl, by omega, ?_⟩
    refine ⟨_, rfl, f, dx, _, rfl, f5.hf, f, c, b, t, _, _, nc, e, rfl, ⟨dx, tp, cp, xs, f5⟩, (!e), rfl, by show 2 ≤ sizeLine; omega, fun r2 hr2 => ?_⟩
    have n12 := ne_of_none hro5 hr2
    refine ⟨_, _, _, _, rfl, rfl, by rw [upd_ne n12]; exact hro5, upd_same, by show 7 ≤ sizeLine; omega, fun r3 hr3 => ?_⟩
    have hk6 : Kp [] H5 (upd (upd H5 r2 (.lst [.int ((psM pl t e).length : Nat), .bl (!e)])) r3 (.lst ([.ref tp, tv (t.drop (psM pl t e).flatten.length), tv t, .int (cost bl (psM pl t e)), .bl e] ++ [.int ((psM pl t e).length : Nat), .bl (!e)]))) := by
      refine ((kp_refl H5).up (.inl hr2)).up (.inl ?_)
      exact ((kp_refl (D := []) H5).up (.inl hr2)).free hr3 (by simp)
    have hr36 : upd (upd H5 r2 (.lst [.int ((psM pl t e).length : Nat), .bl (!e)])) r3 (.lst ([.ref tp, tv (t.drop (psM pl t e).flatten.length), tv t, .int (cost bl (psM pl t e)), .bl e] ++ [.int ((psM pl t e).length : Nat), .bl (!e)])) r3 = some (.lst [.ref tp, tv (t.drop (psM pl t e).flatten.length), tv t, .int (cost bl (psM pl t e)), .bl e, .int ((psM pl t e).length : Nat), .bl (!e)]) := upd_same
    generalize upd (upd H5 r2 (.lst [.int ((psM pl t e).length : Nat), .bl (!e)])) r3 (.lst ([.ref tp, tv (t.drop (psM pl t e).flatten.length), tv t, .int (cost bl (psM pl t e)), .bl e] ++ [.int ((psM pl t e).length : Nat), .bl (!e)])) = H6 at hk6 hr36
    have f6 := f5.kp0 hk6
    have hdu6 := hk6 _ _ hdu5 (by simp)
    have htq6 := hk6 _ _ htq5 (by simp)
    obtain ⟨o1, o2, o3, o4⟩ := row_ok (e := e) (b := !e) (n := cost bl (psM pl t e)) (m := ((psM pl t e).length : Nat)) lt_p lt_r lt_t (by omega) (by omega) hrl hl (by omega) (by omega)
    refine ⟨.ref r3, dRow (psM pl t e) (t.drop (psM pl t e).flatten.length) t (cost bl (psM pl t e)) e ((psM pl t e).length : Nat) (!e), rfl, .lst (SqL.of hr36) (.cons (.tup (SqT.of f6.ht) (texts_dp _)) (.cons (.str _) (.cons (.str _) (.cons (.int _) (.cons (.bl _) (.cons (.int _) (.cons (.bl _) .nil))))))), o1, o2, o3, o4, ?_⟩
    refine ⟨_, rfl, .ref du, dRow (psM pl t e) (t.drop (psM pl t e).flatten.length) t (cost bl (psM pl t e)) e ((psM pl t e).length : Nat) (!e), rfl, .lst (SqL.of hdu6) (.cons (.tup (SqT.of htq6) (texts_dp _)) (.cons (.str _) (.cons (.str _) (.cons (.int _) (.cons (.bl _) (.cons (.int _) (.cons (.bl _) .nil))))))), o1, o2, o3, o4, rfl, _, rfl, ?_⟩
    refine iteF' (by rw [decide_eq_true rfl]; rfl) ?_
    have hk06 := hk5.trans hk6
    have hd6 := hk06 _ _ hd (by simp)
    refine ⟨_, rfl, _, rfl, _, rfl, d, bk, _, rfl, gk, hd6, ov_drop hol _, by omega, fun l1 fs1 H7 hl1 hk67 hl17 hdp1 hfl1 => ?_⟩
    obtain ⟨v1, hv1⟩ : ∃ v, fs1[(t.drop (psM pl t e).flatten.length).length]? = some v := ⟨_, List.getElem?_eq_getElem (by omega)⟩
    have hk07 := hk06.trans hk67
    refine ⟨_, rfl, _, _, _, .int v1, rfl, rfl, SqL.of hl17, last_int hfl1 hv1, _, _, rfl, rfl, _, rfl, _, rfl, d, bk, t, rfl, gk, hk07 _ _ hd (by simp), hol, by omega, fun l2 fs2 H8 hl2 hk78 hl28 hdp2 hfl2 => ?_⟩
    obtain ⟨v2, hv2⟩ : ∃ v, fs2[t.length]? = some v := ⟨_, List.getElem?_eq_getElem (by omega)⟩
    have hk08 := hk07.trans hk78
    refine ⟨_, rfl, _, _, _, .int v2, rfl, rfl, SqL.of hl28, last_int hfl2 hv2, _, _, rfl, rfl, ?_⟩
    have f8 := h.kp0 hk08
    refine ⟨_, rfl, f, dx, _, rfl, f8.hf, rfl, f, c, bl, pl, t, nc, e, rfl, hF0.kp0 hk08, fun u1 u2 H9 hk89 hu1 hu2 => ?_⟩
    have c1 : Cheap bk (t.drop (psM pl t e).flatten.length) v1 := ⟨fs1, hdp1, hfl1, hv1⟩
    have c2 : Cheap bk t v2 := ⟨fs2, hdp2, hfl2, hv2⟩
    have mem : ∀ p, p ∈ bl ↔ p ∈ bk := fun p => hbl.mem_iff
    have e1 : u1 = v1 := cheap_unique (fun p hp => (gb.ln p hp).1) mem hu1 c1
    have e2 : u2 = v2 := cheap_unique (fun p hp => (gb.ln p hp).1) mem hu2 c2
    have b1 := cheap_bound gk (ov_drop hol _) c1
    have b2 := cheap_bound gk hol c2
    subst e1
    subst e2
    have hsm : (cost bl (psM pl t e) + u1 - u2).natAbs < 10 ^ 12 := by omega
    obtain ⟨p1, p2, p3, p4⟩ := int_ok hsm
    refine ⟨.int (cost bl (psM pl t e) + u1 - u2), _, rfl, .int _, p1, p2, p3, p4, _, rfl, .int (cost bl (psM pl t e) + u1 - u2), _, rfl, .int _, p1, p2, p3, p4, rfl, ?_⟩
    show Q (.bl (decide _)) H9
    rw [decide_eq_true rfl]
    exact k H9 (hk08.trans hk89)
end
end K75
-- part L6a
set_option Elab.async false
set_option linter.all false
set_option maxRecDepth 100000
set_option maxHeartbeats 4000000
namespace K75
open PySem PySem.Spec PyProof.Rows L2
/-! what may change: reels, feeders -/
def VS (CF : Addr) (H : Hp) (D : List Addr) : Prop := ∀ x ∈ D, Reel H x ∨ ∃ dx fs, H x = some (.ins CF dx fs)
theorem VS.vol {CF : Addr} {H : Hp} {D : List Addr} (v : VS CF H D) : VolAt CF H D := fun x hx => by
  rcases v x hx with ⟨a, b, c, e⟩ | ⟨dx, fs, e⟩
  · exact ⟨_, e, .inl ⟨_, rfl⟩⟩
  · exact ⟨_, e, .inr ⟨_, _, rfl⟩⟩
theorem kp_vs {CF : Addr} {D : List Addr} {H H' : Hp} (k : Kp D H H') (v : VS CF H D) {a : Addr} {o : HO} (h : H a = some o) (n1 : ∀ x y z : Int, o ≠ .lst [.int x, .int y, .int z]) (n2 : ∀ dx fs, o ≠ .ins CF dx fs) : H' a = some o :=
  k a o h fun hm => by
    rcases v a hm with ⟨x, y, z, e⟩ | ⟨dx, fs, e⟩
    · rw [h] at e
      exact n1 x y z (Option.some.inj e)
    · rw [h] at e
      exact n2 dx fs (Option.some.inj e)
theorem kp_tx {CF : Addr} {D : List Addr} {H H' : Hp} (k : Kp D H H') (v : VS CF H D) {a : Addr} {ts : List Tx0} (h : H a = some (.lst (ts.map tv))) : H' a = some (.lst (ts.map tv)) :=
  kp_vs k v h (fun x y z e => tv_int (HO.lst.inj e)) (fun _ _ e => by cases e)
theorem kp_dK {CF : Addr} {D : List Addr} {H H' : Hp} (k : Kp D H H') (v : VS CF H D) {a : Addr} {ts : List (Key × V)} (h : H a = some (.dK ts)) : H' a = some (.dK ts) :=
  kp_vs k v h (fun x y z e => by cases e) (fun _ _ e => by cases e)
theorem PlH.kpv {CF : Addr} {D : List Addr} {H H' : Hp} {q o r l : Addr} {pl : Pl} (h : PlH H q o r l pl) (k : Kp D H H') (v : VS CF H D) : PlH H' q o r l pl :=
  ⟨kp_dK k v h.hq, kp_tx k v h.ho, kp_dK k v h.hr, kp_dK k v h.hl⟩
theorem kp_fresh {D E : List Addr} {H H' : Hp} (k : Kp E H H') (h : ∀ x ∈ E, x ∈ D ∨ H x = none) : Kp D H H' := fun a o ha hd => k a o ha fun he => by
  rcases h a he with z | z
  · exact hd z
  · rw [z] at ha
    cases ha
structure St0 (CB CC CF : Addr) (H : Hp) (r d q oo rr ll c f o2 lp : Addr) (bk bl : Bk) (pl : Pl) (t1 t2 : Tx0) (e1 e2 : Bool) (n1 n2 : Nat) (ps : List Tx0) : Prop where
  hR : Reel H r
  hd : H d = some (.dK (dB bk))
  hp : PlH H q oo rr ll pl
  F1 : FeedH CB CC CF H f c bl pl t1 e1 n1
  F2 : FeedH CB CC CF H o2 c bl pl t2 e2 n2
  hlp : H lp = some (.lst (ps.map tv))
  nfo : f ≠ o2
section
variable {CB CC CF : Addr} {H H' : Hp} {r d q oo rr ll c f o2 lp : Addr} {bk bl : Bk} {pl : Pl} {t1 t2 : Tx0} {e1 e2 : Bool} {n1 n2 : Nat} {ps : List Tx0}
theorem feed_ins {H : Hp} {f c : Addr} {bk : Bk} {pl : Pl} {t : Tx0} {e : Bool} {n : Nat} (h : FeedH CB CC CF H f c bk pl t e n) : ∃ dx fs, H f = some (.ins CF dx fs) := by
  obtain ⟨b, ⟨dx, tp, cp, xs, h⟩, _⟩ := h
  exact ⟨_, _, h.hf⟩
theorem St0.nrf (s : St0 CB CC CF H r d q oo rr ll c f o2 lp bk bl pl t1 t2 e1 e2 n1 n2 ps) : f ≠ r ∧ o2 ≠ r := by
  obtain ⟨x, y, z, e⟩ := s.hR
  obtain ⟨dx, fs, h⟩ := feed_ins s.F1
  obtain ⟨dx2, fs2, h2⟩ := feed_ins s.F2
  refine ⟨fun z => ?_, fun z => ?_⟩
  · rw [z, e] at h
    cases h
  · rw [z, e] at h2
    cases h2
theorem St0.kp0 (s : St0 CB CC CF H r d q oo rr ll c f o2 lp bk bl pl t1 t2 e1 e2 n1 n2 ps) (k : Kp [] H H') : St0 CB CC CF H' r d q oo rr ll c f o2 lp bk bl pl t1 t2 e1 e2 n1 n2 ps := by
  obtain ⟨x, y, z, e⟩ := s.hR
  exact ⟨⟨x, y, z, k _ _ e (by simp)⟩, k _ _ s.hd (by simp), s.hp.kp0 k, s.F1.kp0 k, s.F2.kp0 k, k _ _ s.hlp (by simp), s.nfo⟩
theorem St0.vr (s : St0 CB CC CF H r d q oo rr ll c f o2 lp bk bl pl t1 t2 e1 e2 n1 n2 ps) : VS CF H [r] := fun x hx => by
  rw [List.mem_singleton.mp hx]
  exact .inl s.hR
theorem St0.vf (s : St0 CB CC CF H r d q oo rr ll c f o2 lp bk bl pl t1 t2 e1 e2 n1 n2 ps) : VS CF H [f] := fun x hx => by
  rw [List.mem_singleton.mp hx]
  exact .inr (feed_ins s.F1)
theorem St0.vo (s : St0 CB CC CF H r d q oo rr ll c f o2 lp bk bl pl t1 t2 e1 e2 n1 n2 ps) : VS CF H [o2] := fun x hx => by
  rw [List.mem_singleton.mp hx]
  exact .inr (feed_ins s.F2)
theorem St0.kpr (s : St0 CB CC CF H r d q oo rr ll c f o2 lp bk bl pl t1 t2 e1 e2 n1 n2 ps) (k : Kp [r] H H') (hR : Reel H' r) (n : CB ≠ CF) (n2' : CC ≠ CF) : St0 CB CC CF H' r d q oo rr ll c f o2 lp bk bl pl t1 t2 e1 e2 n1 n2 ps :=
  ⟨hR, kp_dK k s.vr s.hd, s.hp.kpv k s.vr, s.F1.kp k s.vr.vol (by simpa using s.nrf.1) n n2', s.F2.kp k s.vr.vol (by simpa using s.nrf.2) n n2', kp_tx k s.vr s.hlp, s.nfo⟩
theorem St0.kpf {t : Tx0} {e : Bool} {nc : Nat} (s : St0 CB CC CF H r d q oo rr ll c f o2 lp bk bl pl t1 t2 e1 e2 n1 n2 ps) (k : Kp [f] H H') (F : FeedH CB CC CF H' f c bl pl t e nc) (n : CB ≠ CF) (n2' : CC ≠ CF) : St0 CB CC CF H' r d q oo rr ll c f o2 lp bk bl pl t t2 e e2 nc n2 ps := by
  obtain ⟨x, y, z, e⟩ := s.hR
  exact ⟨⟨x, y, z, k _ _ e (by simpa using s.nrf.1.symm)⟩, kp_dK k s.vf s.hd, s.hp.kpv k s.vf, F, s.F2.kp k s.vf.vol (by simpa using s.nfo.symm) n n2', kp_tx k s.vf s.hlp, s.nfo⟩
theorem St0.kpo {t : Tx0} {e : Bool} {nc : Nat} (s : St0 CB CC CF H r d q oo rr ll c f o2 lp bk bl pl t1 t2 e1 e2 n1 n2 ps) (k : Kp [o2] H H') (F : FeedH CB CC CF H' o2 c bl pl t e nc) (n : CB ≠ CF) (n2' : CC ≠ CF) : St0 CB CC CF H' r d q oo rr ll c f o2 lp bk bl pl t1 t e1 e n1 nc ps := by
  obtain ⟨x, y, z, e⟩ := s.hR
  exact ⟨⟨x, y, z, k _ _ e (by simpa using s.nrf.2.symm)⟩, kp_dK k s.vo s.hd, s.hp.kpv k s.vo, s.F1.kp k s.vo.vol (by simpa using s.nfo) n n2', F, kp_tx k s.vo s.hlp, s.nfo⟩
end
theorem tup_ok {ps : List Tx0} (hp : ∀ p ∈ ps, Lt p) (hf : ps.flatten.length ≤ 8000) (hl : ps.length ≤ 8000) :
    (PyData.tuple (dTx ps)).canLay0 = true ∧ (PyData.tuple (dTx ps)).depth ≤ 30 ∧ (PyData.tuple (dTx ps)).showable = true ∧ (PyData.tuple (dTx ps)).shown.length ≤ sizeLine := by
  have a1 := (texts_lay ps hp).1
  have a2 := (texts_lay ps hp).2
  have c1 : (PyData.tuple (dTx ps)).canLay0 = true := lay_tup hp
  have c2 : (PyData.tuple (dTx ps)).depth ≤ 3 := by
    simp only [PyData.depth]
    omega
  refine ⟨c1, by omega, ?_, ?_⟩
  · simp only [PyData.showable, show_all]
  · refine PyData.shown_fits_of_layable0 (B := 13) (by decide) (by decide) ?_ ?_
    · unfold PyData.layable0
      rw [c1, decide_eq_true (show (PyData.tuple (dTx ps)).depth ≤ 64 by omega), Bool.true_and, Bool.true_and]
      refine decide_eq_true ?_
      have w1 := weigh_all ps
      simp only [PyData.weight]
      rw [w1]
      omega
    · simp only [PyData.intsShort, short_all]
theorem take_flat {ps : List Tx0} {i : Nat} {p : Tx0} (h : ps[i]? = some p) : (ps.take (i + 1)).flatten = (ps.take i).flatten ++ p := by
  rw [List.take_succ, h, List.flatten_append]
  show _ ++ (p ++ []) = _
  rw [List.append_nil]
theorem flat_take_le (ps : List Tx0) (i : Nat) : (ps.take i).flatten.length ≤ ps.flatten.length := by
  have h : (ps.take i).flatten ++ (ps.drop i).flatten = ps.flatten := by rw [← List.flatten_append, List.take_append_drop]
  have := congrArg List.length h
  rw [List.length_append] at this
  omega
theorem St0.gg {CB CC CF : Addr} {H : Hp} {r d q oo rr ll c f o2 lp : Addr} {bk bl : Bk} {pl : Pl} {t1 t2 : Tx0} {e1 e2 : Bool} {n1 n2 : Nat} {ps : List Tx0} (s : St0 CB CC CF H r d q oo rr ll c f o2 lp bk bl pl t1 t2 e1 e2 n1 n2 ps) : GoodBook bl ∧ GoodPl bl pl ∧ Ov bl t1 ∧ Ov bl t2 := by
  obtain ⟨b, _, hc, _, ho, _⟩ := s.F1
  obtain ⟨_, _, _, _, ho2, _⟩ := s.F2
  exact ⟨hc.g.1, hc.g.2, ho, ho2⟩
theorem cutV_drop (xs ys : List V) : cutV (xs ++ ys) (some ((xs.length : Nat) : Int)) none = ys := by
  unfold cutV
  rw [HT.sIx_nat, HT.sIx_none, List.length_append, Nat.min_eq_left (by omega), List.drop_left, show xs.length + ys.length - xs.length = ys.length by omega, List.take_length]
theorem feed_at {CB CC CF : Addr} {H : Hp} {f c : Addr} {bk : Bk} {pl : Pl} {t : Tx0} {e : Bool} {n : Nat} (h : FeedH CB CC CF H f c bk pl t e n) : ∃ dx fs, H f = some (.ins CF dx fs) ∧ List.lookup ("feed" : Str) fs = none ∧ List.lookup ("end" : Str) fs = none ∧ List.lookup ("behind" : Str) fs = none := by
  obtain ⟨b, ⟨dx, tp, cp, xs, h⟩, _⟩ := h
  exact ⟨_, _, h.hf, rfl, rfl, rfl⟩
end K75
-- part L6
set_option Elab.async false
set_option linter.all false
set_option maxRecDepth 100000
set_option maxHeartbeats 4000000
namespace K75
open PySem PySem.Spec PyProof.Rows L2
section
variable {P : Program} {w : World} {K : PySem.W.Frag} {mg : Str → Option Value} {base : Heap} {CB CC CF : Addr}
def sp_right : Sp := fun vs H Q _ => ∃ (r : Addr), vs = [.ref r] ∧ Reel H r ∧ ∀ H', Kp [r] H H' → Q (.bl true) H'
theorem c_right (T : Ty K mg CB CC CF) : CalG P w K mg base 10 "_law_right" sp_right := by
  refine calG_of T.d_right sc_right (fun _ _ _ _ _ _ us hl => match us, hl with | [_], _ => rfl) (fun vs H Q E h => ?_) (fun cdv A outer f0 s H vs Q E hg hr h => ?_)
  · obtain ⟨r, rfl, _⟩ := h
    rfl
  · obtain ⟨r, rfl, hR, k⟩ := h
    have h3 : sizeLine = 16777216 := sizeLine_eq
    have hg0 : (A.deeper (envOfC "_law_right" (defScope s_right) s.heap.objs.size f0 cdv)).guards = some [] := hg
    refine ⟨_, (pss_cons (ps_set (i := 1) sc_right.nd rfl (Or.inl rfl) (C8.pe_c (c_drawn_book T.toTx) hr (by decide) (by rfl) (pa_cons (pv 0) pa_nil)))
  (pss_cons (ps_set (i := 2) sc_right.nd rfl (Or.inl rfl) (C8.pe_c (c_hasty T.toTx) hr (by decide) (by rfl) (pa_cons (pv 0) (pa_cons (pv 1) (pa_cons (pe_op op_add pe_int (C8.pe_c (c_spin T.toTx) hr (by decide) (by rfl) (pa_cons (pv 0) (pa_cons pe_int pa_nil)))) (pa_cons pe_dnewK pa_nil))))))
  (pss_cons (ps_set (i := 3) sc_right.nd rfl (Or.inl rfl) (C8.pe_c (c_cutter_of T) hr (by decide) (by rfl) (pa_cons (C8.pe_mk (c_Book T) hr (by decide) (by rfl) (pa_cons (pe_callTy (call_dictP rfl) (by rfl) T.n_dict (by decide +kernel) (pa_cons (LiI.pe_listItems rfl (pv 1) (by rfl) T.n_list (by decide +kernel)) pa_nil)) pa_nil)) (pa_cons (pv 2) pa_nil))))
  (pss_cons (ps_asg (pe_tup (pa_cons (C8.pe_mk (c_Feeder T) hr (by decide) (by rfl) (pa_cons (pv 3) pa_nil)) (pa_cons (C8.pe_mk (c_Feeder T) hr (by decide) (by rfl) (pa_cons (pv 3) pa_nil)) (pa_cons pe_str (pa_cons (pe_lst pa_nil) (pa_cons pe_str pa_nil)))))) (pg_tupK (K := K) (n := 5) rfl (by rfl) (pgs_cons (pg_name (i := 4) sc_right.nd rfl (Or.inl rfl)) (pgs_cons (pg_name (i := 5) sc_right.nd rfl (Or.inl rfl)) (pgs_cons (pg_name (i := 6) sc_right.nd rfl (Or.inl rfl)) (pgs_cons (pg_name (i := 7) sc_right.nd rfl (Or.inl rfl)) (pgs_cons (pg_name (i := 8) sc_right.nd rfl (Or.inl rfl)) pgs_nil)))))))
  (C8.pss_cut (ps_for PassesOwn.never rfl (pi_list (C8.pe_c (c_parts T.toTx) hr (by decide) (by rfl) (pa_cons (pv 0) (pa_cons (C8.pe_c (c_drawn_text T.toTx) hr (by decide) (by rfl) (pa_cons (pv 0) (pa_cons (C8.pe_c (c_signs_of T.toTx) hr (by decide) (by rfl) (pa_cons (pv 1) pa_nil)) (pa_cons (C8.pe_c (c_spin T.toTx) hr (by decide) (by rfl) (pa_cons (pv 0) (pa_cons pe_int pa_nil))) pa_nil)))) pa_nil)))) (pg_name (i := 9) sc_right.nd rfl (Or.inl rfl))
    (pss_cons (ps_par (i := 6) (j := 10) (by rfl) sc_right.nd rfl rfl (by decide) rfl rfl (pa_cons (pe_op op_add_str (pv 6) (pv 9)) (pa_cons (pe_callB call_len_seq (by rfl) T.n_len (by decide +kernel) (pa_cons (pv 7) pa_nil)) pa_nil)) (by rfl))
    (pss_cons (ps_asg (C8.pe_c (c_run T.toTx) hr (by decide) (by rfl) (pa_cons (pv 2) (pa_cons (pv 6) pa_nil))) (pg_unl rfl (pgs_cons (pg_name (i := 7) sc_right.nd rfl (Or.inl rfl)) (pgs_cons (pg_name (i := 8) sc_right.nd rfl (Or.inl rfl)) pgs_nil))))
    (C8.pss_cut (ps_if (pt_cmpR op_eq (C8.pe_c (c_spin T.toTx) hr (by decide) (by rfl) (pa_cons (pv 0) (pa_cons pe_int pa_nil))) pe_int (nomark _))
      (pss_one (ps_aug (i := 4) sc_right.nd rfl (Or.inl rfl) (pv 9) (ip_own (c_Feeder_iadd T) T.sf_Feeder hr (by decide))))
      (pss_one (ps_if (pt_cmpR op_ne (pe_callB (call_repr hg0 hr.units) (by rfl) T.n_repr (by decide +kernel) (pa_cons (C8.pe_mt (c_Feeder_feed T) hr (by decide) (pv 4) (pa_cons (pv 9) pa_nil)) pa_nil)) (pe_callB (call_repr hg0 hr.units) (by rfl) T.n_repr (by decide +kernel) (pa_cons (pe_callTy call_tuple_of (by rfl) T.n_tuple (by decide +kernel) (pa_cons (pe_slice sl_list (pv 7) (po_some (pv 10)) po_none) pa_nil)) pa_nil)) (nomark _))
        (pss_one (ps_ret pe_bl))
        pss_nil)))
    (C8.pss_cut (ps_for PassesOwn.never rfl (pi_str (pv 9)) (pg_name (i := 11) sc_right.nd rfl (Or.inl rfl))
      (pss_one (ps_expr (C8.pe_mt (c_Feeder_feed T) hr (by decide) (pv 5) (pa_cons (pv 11) pa_nil)))))
    (pss_cons (ps_if (PW.pt (pw_or (pt_not (pt_val (pe_cg (c_is_told T) hg0 hr (by decide) (by rfl) (pa_cons (pv 4) (pa_cons (pv 1) (pa_cons (pv 7) (pa_cons (pv 8) (pa_cons (pv 6) (pa_cons pe_bl pa_nil))))))))) (pw_or1 (pt_not (pt_cmpR (op_eqO (c_Feeder_eq T) hr (by decide)) (pv 4) (pv 5) (nomark _))))))
      (pss_one (ps_ret pe_bl))
      pss_nil)
    (pss_one (ps_if (PW.pt (pw_or (pt_cmpR (op_neD hr.units) (pe_pr (c_Feeder_told T) hr (by decide) (pv 5)) (pe_callTy call_tuple_of (by rfl) T.n_tuple (by decide +kernel) (pa_cons (pv 7) pa_nil)) (nomark _)) (pw_or1 (pt_cmpR op_ne (pe_pr (c_Feeder_waiting T) hr (by decide) (pv 5)) (pv 8) (nomark _)))))
      (pss_one (ps_ret pe_bl))
      pss_nil))))))))
  (pss_cons (ps_set (i := 12) sc_right.nd rfl (Or.inl rfl) (C8.pe_c (c_cut T.toTx) hr (by decide) (by rfl) (pa_cons (pv 2) (pa_cons (pv 6) pa_nil))))
  (pss_cons (ps_if (PW.pt (pw_or (pt_cmpR op_ne (pe_callB (call_repr hg0 hr.units) (by rfl) T.n_repr (by decide +kernel) (pa_cons (C8.pe_mt0 (c_Feeder_end T) hr (by decide) (pv 4)) pa_nil)) (pe_callB (call_repr hg0 hr.units) (by rfl) T.n_repr (by decide +kernel) (pa_cons (pe_callTy call_tuple_of (by rfl) T.n_tuple (by decide +kernel) (pa_cons (pe_slice sl_list (pv 12) (po_some (pe_callB call_len_seq (by rfl) T.n_len (by decide +kernel) (pa_cons (pv 7) pa_nil))) po_none) pa_nil)) pa_nil)) (nomark _)) (pw_or (pt_cmpR (op_eqO (c_Feeder_eq T) hr (by decide)) (pv 4) (pv 5) (nomark _)) (pw_or1 (pt_not (pt_cmpR (op_neO (c_Feeder_eq T) T.ne_Feeder hr (by decide)) (pv 4) (pv 5) (nomark _)))))))
    (pss_one (ps_ret pe_bl))
    pss_nil)
  (pss_cons (ps_if (PW.pt (pw_or (pt_not (pt_val (pe_cg (c_is_told T) hg0 hr (by decide) (by rfl) (pa_cons (pv 4) (pa_cons (pv 1) (pa_cons (pv 12) (pa_cons pe_str (pa_cons (pv 6) (pa_cons pe_bl pa_nil))))))))) (pw_or1 (pt_cmpR (op_neD hr.units) (pe_pr (c_Feeder_told T) hr (by decide) (pv 4)) (pe_cl (c_Cutter_call T) hr (by decide) (pv 3) (pa_cons (pv 6) pa_nil)) (nomark _)))))
    (pss_one (ps_ret pe_bl))
    pss_nil)
  (pss_one (ps_ret (pe_and (pe_cmpR (op_eqD hr.units) (C8.pe_mt0 (c_Feeder_end T) hr (by decide) (pv 5)) (pe_callTy call_tuple_of (by rfl) T.n_tuple (by decide +kernel) (pa_cons (pe_slice sl_list (pv 12) (po_some (pe_callB call_len_seq (by rfl) T.n_len (by decide +kernel) (pa_cons (pv 7) pa_nil))) po_none) pa_nil)) (nomark _)) (pe_and (pe_cmpR (op_eqO (c_Feeder_eq T) hr (by decide)) (pv 4) (pv 5) (nomark _)) (pe_one (pe_cmpR op_eq (C8.pe_mt0 (c_Feeder_behind T) hr (by decide) (pv 5)) (C8.pe_mt (c_Cutter_behind T) hr (by decide) (pv 3) (pa_cons (pv 6) pa_nil)) (nomark _))))))))))))))), ?_⟩
    refine ⟨_, rfl, r, rfl, hR, fun d bk H1 hd0 gk hk1 hR1 hd1 => ?_⟩
    refine ⟨_, rfl, _, rfl, _, rfl, r, 7, rfl, hR1, by decide, by decide, fun v x y z hv1 hv2 => ?_⟩
    obtain ⟨n, rfl⟩ : ∃ n : Nat, v = n := ⟨v.toNat, (Int.toNat_of_nonneg hv1).symm⟩
    have nrd : r ≠ d := by
      rintro rfl
      obtain ⟨x, y, z, e⟩ := hR1
      rw [e] at hd1
      cases hd1
    have hk2 : Kp [r] H (upd H1 r (.lst [.int x, .int y, .int z])) := hk1.up (.inr (by simp))
    have hR2 : Reel (upd H1 r (.lst [.int x, .int y, .int z])) r := reel_same x y z
    have hd2 : upd H1 r (.lst [.int x, .int y, .int z]) d = some (.dK (dB bk)) := by
      rw [upd_ne nrd.symm]
      exact hd1
    generalize upd H1 r (.lst [.int x, .int y, .int z]) = H2 at hk2 hR2 hd2
    refine ⟨_, _, rfl, rfl, fun hh hhh => ?_⟩
    have hk3 : Kp [r] H (upd H2 hh (.dK [])) := hk2.up (.inl (hk2.free hhh (by
      intro e
      rw [List.mem_singleton.mp e] at hhh
      obtain ⟨x, y, z, e⟩ := hR2
      rw [hhh] at e
      cases e)))
    have hR3 : Reel (upd H2 hh (.dK [])) r := reel_upd hR2 (hR2.ne hhh)
    have hd3 : upd H2 hh (.dK []) d = some (.dK (dB bk)) := by
      rw [upd_ne (ne_of_none hd2 hhh)]
      exact hd2
    have hh3 : upd H2 hh (.dK []) hh = some (.dK []) := upd_same
    generalize upd H2 hh (.dK []) = H3 at hk3 hR3 hd3 hh3
    refine ⟨r, d, hh, bk, 1 + n, rfl, hR3, gk, hd3, hh3, by omega, by omega, fun q oo rr ll pl H4 gp _ hp4 hk34 hR4 => ?_⟩
    have v3 : VS CF H3 [r] := fun x hx => by
      rw [List.mem_singleton.mp hx]
      exact .inl hR3
    have hd4 := kp_dK hk34 v3 hd3
    have hk4 := hk3.trans hk34
    refine ⟨_, rfl, d, dB bk, rfl, hd4, fun H5 lz ts hext hlz0 hts0 hlzn hlz hpr => ⟨lz, ts, dB bk, rfl, SqL.of hlz, paired_weak hpr (fun a c _ h => SqT.of h), fun z hz => ?_⟩⟩
    have hk45 : Kp [] H4 H5 := fun b o e _ => hext b o e
    rw [show mergeK [] (dB bk) = dB bk from merge_self V.int gk.nd]
    have hk46 : Kp [] H4 (upd H5 z (.dK (dB bk))) := hk45.up (.inl (hk45.free hz (by simp)))
    have hz6 : upd H5 z (.dK (dB bk)) z = some (.dK (dB bk)) := upd_same
    generalize upd H5 z (.dK (dB bk)) = H6 at hk46 hz6
    intro a dxa ha0 hdxa0 nea
    have hk67 : Kp [] H6 (upd (upd H6 dxa (.own a)) a (.ins CB dxa [])) := ((kp_refl H6).up (.inl hdxa0)).up (.inl ha0)
    have ha7 : upd (upd H6 dxa (.own a)) a (.ins CB dxa []) a = some (.ins CB dxa []) := upd_same
    have hz7 := hk67 _ _ hz6 (by simp)
    generalize upd (upd H6 dxa (.own a)) a (.ins CB dxa []) = H7 at hk67 ha7 hz7
    refine ⟨a, dxa, z, bk, rfl, ha7, hz7, gk, fun bl H8 hbl hb8 hk78 => ⟨rfl, _, rfl, ?_⟩⟩
    have hk48 : Kp [] H4 H8 := (kp_fresh (D := []) (((hk46.trans hk67).any [a]).trans hk78) (fun x hx => by
      rw [List.mem_singleton.mp hx]
      exact .inr (hk46.free ha0 (by simp))))
    have hk8 := hk4.trans (hk48.any [r])
    have hp8 := hp4.kp0 hk48
    have hd8 := hk48 _ _ hd4 (by simp)
    have gpl := gp.perm hbl
    refine ⟨a, q, oo, rr, ll, bl, pl, rfl, hb8, hp8, gpl, fun c H9 hc0 hc9 hk89 => ?_⟩
    have hk49 := hk48.trans hk89
    have hk9 := hk4.trans (hk49.any [r])
    refine ⟨_, rfl, ?_⟩
    intro f dxf hf0 hdxf0 nef
    have hk910 : Kp [] H9 (upd (upd H9 dxf (.own f)) f (.ins CF dxf [])) := ((kp_refl H9).up (.inl hdxf0)).up (.inl hf0)
    have hf10 : upd (upd H9 dxf (.own f)) f (.ins CF dxf []) f = some (.ins CF dxf []) := upd_same
    have hc10 := hc9.kp0 hk910
    generalize upd (upd H9 dxf (.own f)) f (.ins CF dxf []) = H10 at hk910 hf10 hc10
    refine ⟨f, dxf, c, bl, pl, rfl, hf10, hc10, fun H11 F11 hk1011 => ⟨rfl, _, rfl, ?_⟩⟩
    have hk911 : Kp [] H9 H11 := kp_fresh (D := []) ((hk910.any [f]).trans hk1011) (fun x hx => by
      rw [List.mem_singleton.mp hx]
      exact .inr hf0)
    have hc11 := hc9.kp0 hk911
    intro o2 dxo ho0 hdxo0 neo
    have hk1112 : Kp [] H11 (upd (upd H11 dxo (.own o2)) o2 (.ins CF dxo [])) := ((kp_refl H11).up (.inl hdxo0)).up (.inl ho0)
    have ho12 : upd (upd H11 dxo (.own o2)) o2 (.ins CF dxo []) o2 = some (.ins CF dxo []) := upd_same
    have hc12 := hc11.kp0 hk1112
    have F12 := F11.kp0 hk1112
    generalize upd (upd H11 dxo (.own o2)) o2 (.ins CF dxo []) = H12 at hk1112 ho12 hc12 F12
    refine ⟨o2, dxo, c, bl, pl, rfl, ho12, hc12, fun H13 F13 hk1213 => ⟨rfl, by show 0 ≤ sizeLine; omega, fun tl htl => ?_⟩⟩
    have hk1113 : Kp [] H11 H13 := kp_fresh (D := []) ((hk1112.any [o2]).trans hk1213) (fun x hx => by
      rw [List.mem_singleton.mp hx]
      exact .inr ho0)
    have F13f := F11.kp0 hk1113
    have nfo : f ≠ o2 := by
      rintro rfl
      obtain ⟨dx, fs, e⟩ := feed_ins F11
      rw [ho0] at e
      cases e
    have hk413 := (hk49.trans hk911).trans hk1113
    have hk13 := hk4.trans (hk413.any [r])
    have hd13 := hk413 _ _ hd4 (by simp)
    have hp13 := hp4.kp0 hk413
    have hR13 : Reel H13 r := by
      obtain ⟨x, y, z, e⟩ := hR4
      exact ⟨x, y, z, hk413 _ _ e (by simp)⟩
    have hf0' : H f = none := (hk9).free hf0 (by
      intro e
      rw [List.mem_singleton.mp e] at hf0
      obtain ⟨x, y, z, e⟩ := hR4
      rw [hk49 _ _ e (by simp)] at hf0
      cases hf0)
    have ho0' : H o2 = none := (hk4.trans ((hk49.trans hk911).any [r])).free ho0 (by
      intro e
      rw [List.mem_singleton.mp e] at ho0
      obtain ⟨x, y, z, e⟩ := hR4
      rw [(hk49.trans hk911) _ _ e (by simp)] at ho0
      cases ho0)
    clear hk1213 hk1112 hk1113 F12 F11 hc12 hc11 hk910 hk1011 hk911 hc10 hk48 hk78 hk67 hk46 hk45 hpr hlz hlzn hts0 hext
    refine ⟨by show 5 ≤ sizeLine; omega, fun tq htq => ?_⟩
    have ntq := ne_of_none (show upd H13 tl (.lst []) tl = some (.lst []) from upd_same) htq
    have hk1314 : Kp [] H13 (upd (upd H13 tl (.lst [])) tq (.tup [.ref f, .ref o2, .str "", .ref tl, .str ""])) := by
      have : Kp [] H13 (upd H13 tl (.lst [])) := (kp_refl H13).up (.inl htl)
      exact this.up (.inl (this.free htq (by simp)))
    have htl14 : upd (upd H13 tl (.lst [])) tq (.tup [.ref f, .ref o2, .str "", .ref tl, .str ""]) tl = some (.lst []) := by
      rw [upd_ne ntq]
      exact upd_same
    have htq14 : upd (upd H13 tl (.lst [])) tq (.tup [.ref f, .ref o2, .str "", .ref tl, .str ""]) tq = some (.tup [.ref f, .ref o2, .str "", .ref tl, .str ""]) := upd_same
    refine ⟨tq, _, rfl, SqT.of htq14, rfl, _, _, rfl, _, _, rfl, _, _, rfl, _, _, rfl, _, _, rfl, rfl, ?_⟩
    have F13o := F13.kp0 hk1314
    have F13f' := F13f.kp0 hk1314
    have hd14 := hk1314 _ _ hd13 (by simp)
    have hp14 := hp13.kp0 hk1314
    have hR14 : Reel (upd (upd H13 tl (.lst [])) tq (.tup [.ref f, .ref o2, .str "", .ref tl, .str ""])) r := by
      obtain ⟨x, y, z, e⟩ := hR13
      exact ⟨x, y, z, hk1314 _ _ e (by simp)⟩
    have hk14 := hk13.trans (hk1314.any [r])
    generalize upd (upd H13 tl (.lst [])) tq (.tup [.ref f, .ref o2, .str "", .ref tl, .str ""]) = H14 at hk1314 htl14 htq14 F13o F13f' hd14 hp14 hR14 hk14
    have gbl := (BookH.g hb8)
    refine ⟨fun σ' H' => ∃ (x9 x10 x11 : Option V) (tl lp : Addr) (n1 n2 : Nat) (t : Tx0) (ps : List Tx0), σ' = [some (.ref r), some (.ref d), some (.ref q), some (.ref c), some (.ref f), some (.ref o2), some (tv t), some (.ref tl), some (tv (runM pl t).2), x9, x10, x11, none] ∧
      St0 CB CC CF H' r d q oo rr ll c f o2 lp bk bl pl t t false false n1 n2 ps ∧ t.length ≤ 60 ∧ H' tl = some (.lst ((runM pl t).1.map tv)) ∧ n1 ≤ 100000 ∧ n2 ≤ 100000 ∧ Kp [r, f, o2] H H', ?_, ?_⟩
    · refine ⟨_, rfl, _, rfl, _, rfl, d, bk, rfl, gk, hd14, fun sl cs H15 hsl0 hk1415 hsl hcs hcne hcl => ?_⟩
      have hR15 : Reel H15 r := by
        obtain ⟨x, y, z, e⟩ := hR14
        exact ⟨x, y, z, hk1415 _ _ e (by simp)⟩
      refine ⟨_, rfl, r, 61, rfl, hR15, by decide, by decide, fun v x y z hv1 hv2 => ?_⟩
      obtain ⟨m, rfl⟩ : ∃ n : Nat, v = n := ⟨v.toNat, (Int.toNat_of_nonneg hv1).symm⟩
      have nrs : r ≠ sl := by
        rintro rfl
        obtain ⟨x, y, z, e⟩ := hR14
        rw [hsl0] at e
        cases e
      have hk16 : Kp [r] H14 (upd H15 r (.lst [.int x, .int y, .int z])) := (hk1415.any [r]).up (.inr (by simp))
      have hR16 : Reel (upd H15 r (.lst [.int x, .int y, .int z])) r := reel_same x y z
      have hsl16 : upd H15 r (.lst [.int x, .int y, .int z]) sl = some (.lst (cs.map sg)) := by
        rw [upd_ne nrs.symm]
        exact hsl
      generalize upd H15 r (.lst [.int x, .int y, .int z]) = H16 at hk16 hR16 hsl16
      refine ⟨r, sl, cs, m, rfl, hR16, hsl16, nrs.symm, hcne, by omega, by omega, fun t H17 htl' htc hk1617 hR17 => ?_⟩
      have hot : Ov bk t := fun ch hch => (hcs ch).mp (htc ch hch)
      refine ⟨r, t, rfl, hR17, by omega, fun lp ps H18 hlp0 hk1718 hR18 hlp hfl hpl => ?_⟩
      have hk18 := (hk16.trans hk1617).trans hk1718
      have v14 : VS CF H14 [r] := fun x hx => by
        rw [List.mem_singleton.mp hx]
        exact .inl hR14
      have nfr : f ≠ r := by
        rintro rfl
        obtain ⟨x, y, z, e⟩ := hR14
        obtain ⟨dx, fs, e2⟩ := feed_ins F13f'
        rw [e] at e2
        cases e2
      have nor : o2 ≠ r := by
        rintro rfl
        obtain ⟨x, y, z, e⟩ := hR14
        obtain ⟨dx, fs, e2⟩ := feed_ins F13o
        rw [e] at e2
        cases e2
      have S18 : St0 CB CC CF H18 r d q oo rr ll c f o2 lp bk bl pl [] [] false false 0 0 ps :=
        ⟨hR18, kp_dK hk18 v14 hd14, hp14.kpv hk18 v14, F13f'.kp hk18 v14.vol (by simpa using nfr) T.n_BF T.n_CF, F13o.kp hk18 v14.vol (by simpa using nor) T.n_BF T.n_CF, hlp, nfo⟩
      have htl18 : H18 tl = some (.lst []) := kp_tx (ts := []) hk18 v14 htl14
      have e0 : runM pl [] = ([], []) := runM_stop (show ([] : Tx0).length < pl.span from gp.s1)
      refine ⟨lp, rfl, ⟨_, SqL.of hlp⟩, ?_⟩
      have hk18' : Kp [r, f, o2] H H18 := kp_fresh (hk14.trans hk18) (fun x hx => by
        rw [List.mem_singleton.mp hx]
        exact .inl (by simp))
      refine for_it (walk_list (xs := ps.map tv)) (fun i σ' H' => ∃ (x9 x10 x11 : Option V) (tl : Addr) (n1 n2 : Nat) (t : Tx0), σ' = [some (.ref r), some (.ref d), some (.ref q), some (.ref c), some (.ref f), some (.ref o2), some (tv t), some (.ref tl), some (tv (runM pl t).2), x9, x10, x11, none] ∧
        t = (ps.take i).flatten ∧ St0 CB CC CF H' r d q oo rr ll c f o2 lp bk bl pl t t false false n1 n2 ps ∧ H' tl = some (.lst ((runM pl t).1.map tv)) ∧ n1 ≤ i ∧ n2 ≤ t.length ∧ Kp [r, f, o2] H H')
        ⟨none, none, none, tl, 0, 0, [], by rw [e0]; rfl, rfl, S18, by rw [e0]; exact htl18, Nat.le_refl _, Nat.le_refl _, hk18'⟩ (fun i σ H' _ ⟨_, _, _, _, _, _, _, _, _, s, _⟩ => SqL.of s.hlp) ?_ ?_
      · rintro i x σ' H' H'' hi ⟨x9, x10, x11, tl, n1, n2, t', rfl, et, S, htl, h1, h2, hk⟩ ⟨rfl, ex⟩
        rw [List.length_map] at hi
        rw [List.getElem?_map] at ex
        obtain ⟨p, hp, rfl⟩ := Option.map_eq_some_iff.mp ex
        have etp := take_flat hp
        rw [← et] at etp
        have hlt := flat_take_le ps (i + 1)
        rw [etp, hfl, List.length_append] at hlt
        have hop : Ov bl p := fun ch hch => ov_perm hbl (hot) ch (by
          rw [← hfl]
          exact List.mem_flatten.mpr ⟨p, List.mem_of_getElem? hp, hch⟩)
        obtain ⟨g1, g2, ho1, _⟩ := S.gg
        have ho3 : Ov bl (t' ++ p) := ov_app ho1 hop
        have hrun := run_ov g1 g2 ho3
        refine ⟨_, rfl, _, rfl, _, _, rfl, rfl, by rw [SX.S_len, SX.S_len]; omega, _, rfl, tl, _, rfl, .inl (SqL.of htl), _, _, rfl, ?_⟩
        rw [SX.S_cat]
        refine ⟨_, rfl, _, rfl, q, oo, rr, ll, bl, pl, t' ++ p, rfl, g1, g2, S.hp, ho3, by rw [List.length_append]; omega, fun y tl2 H1 hy0 htl20 hk1 hy1 htl21 => ⟨y, _, rfl, SqL.of hy1, rfl, _, _, rfl, _, _, rfl, rfl, ?_⟩⟩
        have S1 := S.kp0 hk1
        have hkk1 := hk.trans (hk1.any _)
        rw [List.length_map]
        refine ⟨fun σ' H' => ∃ (n : Nat), σ' = [some (.ref r), some (.ref d), some (.ref q), some (.ref c), some (.ref f), some (.ref o2), some (tv (t' ++ p)), some (.ref tl2), some (tv (runM pl (t' ++ p)).2), some (tv p), some (.int ((runM pl t').1.length : Nat)), x11, none] ∧
          St0 CB CC CF H' r d q oo rr ll c f o2 lp bk bl pl (t' ++ p) t' false false n n2 ps ∧ H' tl2 = some (.lst ((runM pl (t' ++ p)).1.map tv)) ∧ n ≤ i + 1 ∧ Kp [r, f, o2] H H', ?_, ?_⟩
        · refine ⟨_, rfl, r, 3, rfl, S1.hR, by decide, by decide, fun v x y z hv1 hv2 => ?_⟩
          have hk12 : Kp [r] H1 (upd H1 r (.lst [.int x, .int y, .int z])) := (kp_refl H1).up (.inr (by simp))
          have S2 := S1.kpr hk12 (reel_same x y z) T.n_BF T.n_CF
          have htl22 := kp_tx hk12 S1.vr htl21
          have hk2 : Kp [r, f, o2] H (upd H1 r (.lst [.int x, .int y, .int z])) := hkk1.up (.inr (by simp))
          generalize upd H1 r (.lst [.int x, .int y, .int z]) = H2 at S2 htl22 hk2
          obtain ⟨dxf', fs', hf2, hf2l, _, _⟩ := feed_at S2.F1
          have kf : ∀ (H3 : Hp), FeedH CB CC CF H3 f c bl pl (t' ++ p) false (n1 + 1) → Kp [f] H2 H3 → St0 CB CC CF H3 r d q oo rr ll c f o2 lp bk bl pl (t' ++ p) t' false false (n1 + 1) n2 ps ∧ H3 tl2 = some (.lst ((runM pl (t' ++ p)).1.map tv)) ∧ n1 + 1 ≤ i + 1 ∧ Kp [r, f, o2] H H3 := fun H3 F3 hk3 =>
            ⟨S2.kpf hk3 F3 T.n_BF T.n_CF, kp_tx hk3 S2.vf htl22, by omega, hk2.trans (kp_fresh hk3 (fun x hx => by
              rw [List.mem_singleton.mp hx]
              exact .inl (by simp)))⟩
          refine ⟨rfl, _, rfl, ?_⟩
          by_cases hz : decide (V.int v = V.int 0) = true
          · refine iteT' hz ⟨_, rfl, _, rfl, f, dxf', fs', rfl, hf2, f, c, bl, pl, t', p, n1, rfl, S2.F1, hop, by omega, by omega, fun H3 F3 hk3 => ⟨f, rfl, n1 + 1, rfl, kf H3 F3 hk3⟩⟩
          · refine iteF' (Bool.eq_false_iff.mpr hz) ⟨_, rfl, f, dxf', fs', rfl, hf2, hf2l, _, rfl, f, c, bl, pl, t', p, n1, rfl, S2.F1, hop, by omega, by omega, fun z H3 hz0 F3 hz3 hk3 => ?_⟩
            obtain ⟨S3, htl3, hn3, hk3'⟩ := kf H3 F3 hk3
            have hro := run_ov g1 g2 (ov_app (run_ov g1 g2 ho1).2.1 hop)
            have hap := run_app g1 g2 ho1 hop
            have lt_p : ∀ u ∈ (runM pl ((runM pl t').2 ++ p)).1, Lt u := fun u hu => ov_lt g1 (pcs_ov g1 (hro.2.2.1 u hu))
            have hll : (runM pl ((runM pl t').2 ++ p)).1.flatten.length ≤ 8000 := by
              have e1 := congrArg List.length hro.2.2.2
              have e2 := congrArg List.length (run_ov g1 g2 ho1).2.2.2
              rw [List.length_append, List.length_append] at e1
              rw [List.length_append] at e2
              omega
            have hl2 : (runM pl ((runM pl t').2 ++ p)).1.length ≤ 8000 := Nat.le_trans (flat_len fun u hu => (pcs_len g1 (hro.2.2.1 u hu)).1) hll
            obtain ⟨o1, o2', o3, o4⟩ := tup_ok lt_p hll hl2
            refine ⟨.ref z, .tuple (dTx (runM pl ((runM pl t').2 ++ p)).1), rfl, .tup (SqT.of hz3) (texts_dp _), o1, o2', o3, o4, ?_⟩
            refine ⟨_, rfl, _, rfl, _, rfl, tl2, _, rfl, SqL.of htl3, fun u hu => ?_⟩
            have ecut : cutV ((runM pl (t' ++ p)).1.map tv) (some (((runM pl t').1.length : Nat) : Int)) none = (runM pl ((runM pl t').2 ++ p)).1.map tv := by
              rw [hap, List.map_append]
              have := cutV_drop ((runM pl t').1.map tv) ((runM pl ((runM pl t').2 ++ p)).1.map tv)
              rw [List.length_map] at this
              exact this
            rw [ecut]
            refine ⟨u, _, rfl, .inl ⟨SqL.of upd_same, fun l hl => ?_⟩⟩
            refine ⟨.ref l, .tuple (dTx (runM pl ((runM pl t').2 ++ p)).1), rfl, .tup (SqT.of upd_same) (texts_dp _), o1, o2', o3, o4, rfl, _, rfl, ?_⟩
            refine iteF' (by rw [decide_eq_true rfl]; rfl) ?_
            have hk4 : Kp [] H3 (upd (upd H3 u (.lst ((runM pl ((runM pl t').2 ++ p)).1.map tv))) l (.tup ((runM pl ((runM pl t').2 ++ p)).1.map tv))) := by
              have : Kp [] H3 (upd H3 u (.lst ((runM pl ((runM pl t').2 ++ p)).1.map tv))) := (kp_refl H3).up (.inl hu)
              exact this.up (.inl (this.free hl (by simp)))
            exact ⟨n1 + 1, rfl, S3.kp0 hk4, hk4 _ _ htl3 (by simp), hn3, hk3'.trans (hk4.any _)⟩
        · rintro σ' H' ⟨n, rfl, S, htl, hn, hk⟩
          refine ⟨fun σ' H' => ∃ (n3 : Nat) (x : Option V), σ' = [some (.ref r), some (.ref d), some (.ref q), some (.ref c), some (.ref f), some (.ref o2), some (tv (t' ++ p)), some (.ref tl2), some (tv (runM pl (t' ++ p)).2), some (tv p), some (.int ((runM pl t').1.length : Nat)), x, none] ∧
            St0 CB CC CF H' r d q oo rr ll c f o2 lp bk bl pl (t' ++ p) (t' ++ p) false false n n3 ps ∧ H' tl2 = some (.lst ((runM pl (t' ++ p)).1.map tv)) ∧ n3 ≤ (t' ++ p).length ∧ Kp [r, f, o2] H H', ?_, ?_⟩
          · refine ⟨_, rfl, _, rfl, ?_⟩
            refine for_it walk_str (fun j σ' H' => ∃ (n3 : Nat) (x : Option V), σ' = [some (.ref r), some (.ref d), some (.ref q), some (.ref c), some (.ref f), some (.ref o2), some (tv (t' ++ p)), some (.ref tl2), some (tv (runM pl (t' ++ p)).2), some (tv p), some (.int ((runM pl t').1.length : Nat)), x, none] ∧
              St0 CB CC CF H' r d q oo rr ll c f o2 lp bk bl pl (t' ++ p) (t' ++ p.take j) false false n n3 ps ∧ H' tl2 = some (.lst ((runM pl (t' ++ p)).1.map tv)) ∧ n3 ≤ t'.length + j ∧ Kp [r, f, o2] H H') ⟨n2, _, rfl, by rw [List.take_zero, List.append_nil]; exact S, htl, by omega, hk⟩ (fun _ _ _ _ _ => trivial) ?_ ?_
            · rintro j x σ' H' H'' hj ⟨n3, x0, rfl, S, htl, hn3, hk⟩ ⟨rfl, ch, hch, rfl⟩
              have hch' : p[j]? = some ch := by simpa [SX.S] using hch
              have hch1 : Ov bl [ch] := fun z hz => by
                rw [List.mem_singleton.mp hz]
                exact hop ch (List.mem_of_getElem? hch')
              have hjp : (p.take (j + 1)) = p.take j ++ [ch] := by
                rw [List.take_succ, hch']
                rfl
              have hjl : (p.take j).length ≤ p.length := by
                rw [List.length_take]
                omega
              have hj' : j < p.length := by simpa [SX.S] using hj
              obtain ⟨dxo', fso, ho2, hol, _, _⟩ := feed_at S.F2
              refine ⟨_, rfl, o2, dxo', fso, rfl, ho2, hol, _, rfl, o2, c, bl, pl, t' ++ p.take j, [ch], n3, rfl, S.F2, hch1, by rw [List.length_append]; show _ + 1 ≤ 8000; omega, by omega, fun z H3 _ F3 _ hk3 => ⟨n3 + 1, _, rfl, ?_, kp_tx hk3 S.vo htl, by omega, hk.trans (kp_fresh hk3 (fun x hx => by
                rw [List.mem_singleton.mp hx]
                exact .inl (by simp)))⟩⟩
              rw [hjp, ← List.append_assoc]
              exact S.kpo hk3 F3 T.n_BF T.n_CF
            · rintro σ' H' ⟨n3, x, rfl, S, htl, hn3, hk⟩
              have hsz : (SX.S p).cps.size = p.length := SX.S_len p
              rw [hsz, List.take_length] at S
              rw [hsz] at hn3
              exact ⟨n3, x, rfl, S, htl, by rw [List.length_append]; exact hn3, hk⟩
          · rintro σ' H' ⟨n3, x, rfl, S, htl, hn3, hk⟩
            refine ⟨_, rfl, _, rfl, _, rfl, _, rfl, _, rfl, f, d, tl2, c, bk, bl, pl, t' ++ p, false, n, by rw [rest_eq g1 g2 ho3], S.F1, S.hd, gk, hbl, htl, fun H1 hk1 => ⟨_, rfl, ?_⟩⟩
            have S1 := S.kp0 hk1
            have htl1 := hk1 _ _ htl (by simp)
            have hkk1 := hk.trans (hk1.any _)
            obtain ⟨b1, ⟨dx1, tp1, cp1, xs1, R1⟩, hc1, hb1, _, hl1⟩ := S1.F1
            obtain ⟨b2, ⟨dx2, tp2, cp2, xs2, R2⟩, hc2, hb2, _, hl2⟩ := S1.F2
            refine ⟨_, rfl, _, rfl, f, o2, dx1, dx2, _, _, rfl, rfl, R1.hf, R2.hf, f, o2, c, b1, b2, bl, pl, t' ++ p, t' ++ p, _, _, _, _, n, n3, false, false, rfl, ⟨dx1, tp1, cp1, xs1, R1⟩, ⟨dx2, tp2, cp2, xs2, R2⟩, hc1, _, rfl, _, rfl, ?_⟩
            refine iteF' (by simp) ?_
            have lt_p : ∀ u ∈ psM pl (t' ++ p) false, Lt u := fun u hu => ov_lt g1 (pcs_ov g1 (hrun.2.2.1 u hu))
            refine ⟨_, rfl, o2, dx2, _, rfl, R2.hf, o2, c, b2, dx2, tp2, cp2, t' ++ p, _, _, n3, false, xs2, rfl, R2, _, rfl, tl2, _, rfl, .inl ⟨SqL.of htl1, fun tq htq => ?_⟩⟩
            have hk12 : Kp [] H1 (upd H1 tq (.tup ((runM pl (t' ++ p)).1.map tv))) := (kp_refl H1).up (.inl htq)
            have htq2 : upd H1 tq (.tup ((runM pl (t' ++ p)).1.map tv)) tq = some (.tup ((runM pl (t' ++ p)).1.map tv)) := upd_same
            generalize upd H1 tq (.tup ((runM pl (t' ++ p)).1.map tv)) = H2 at hk12 htq2
            have S2 := S1.kp0 hk12
            have R22 := R2.kp0 hk12
            refine ⟨.tuple (dTx (psM pl (t' ++ p) false)), .tuple (dTx (psM pl (t' ++ p) false)), .tup (SqT.of R22.ht) (texts_dp _), .tup (SqT.of htq2) (texts_dp _), shp_tup lt_p, shp_tup lt_p, _, rfl, ?_⟩
            rw [eqv_same (lay_tup lt_p)]
            refine ⟨_, rfl, o2, dx2, _, rfl, R22.hf, o2, c, b2, t' ++ p, _, _, n3, false, rfl, ⟨dx2, tp2, cp2, xs2, R22⟩, hl2, _, rfl, rfl, _, rfl, ?_⟩
            refine iteF' (by rw [rest_eq g1 g2 ho3]; simp) ?_
            exact ⟨_, _, _, tl2, n, n3, t' ++ p, rfl, etp.symm, S2, hk12 _ _ htl1 (by simp), hn, hn3, hkk1.trans (hk12.any _)⟩
      · rintro σ' H' ⟨x9, x10, x11, tl, n1, n2, t', rfl, et, S, htl, h1, h2, hk⟩
        have : t' = t := by
          rw [et, List.length_map, List.take_length, hfl]
        subst this
        refine ⟨x9, x10, x11, tl, lp, n1, n2, t', ps, rfl, S, by omega, htl, ?_, by omega, hk⟩
        rw [List.length_map] at h1
        omega
    · rintro σ' H' ⟨x9, x10, x11, tl, lp, n1, n2, t, ps, rfl, S, htl60, htl, h1, h2, hk⟩
      obtain ⟨g1, g2, ho, _⟩ := S.gg
      have hcr := cut_run g1 g2 ho
      have hco := cut_ok g1 g2 t.length t (Nat.le_refl _) ho
      have hro := run_ov g1 g2 ho
      have lt_w : ∀ u ∈ cutM pl t, Lt u := fun u hu => ov_lt g1 (pcs_ov g1 (hco.1 u hu))
      have hX : ∀ u ∈ cutM pl (runM pl t).2, u ∈ cutM pl t := fun u hu => by
        rw [hcr]
        exact List.mem_append_right _ hu
      have lt_x : ∀ u ∈ cutM pl (runM pl t).2, Lt u := fun u hu => lt_w u (hX u hu)
      have hxf : (cutM pl (runM pl t).2).flatten.length ≤ 8000 := by
        have e := congrArg List.length hco.2
        rw [hcr, List.flatten_append, List.length_append] at e
        omega
      have hxl : (cutM pl (runM pl t).2).length ≤ 8000 := Nat.le_trans (flat_len fun u hu => (pcs_len g1 (hco.1 u (hX u hu))).1) hxf
      obtain ⟨o1, o2', o3, o4⟩ := tup_ok lt_x hxf hxl
      have ecut : cutV ((cutM pl t).map tv) (some (((runM pl t).1.length : Nat) : Int)) none = (cutM pl (runM pl t).2).map tv := by
        rw [hcr, List.map_append]
        have := cutV_drop ((runM pl t).1.map tv) ((cutM pl (runM pl t).2).map tv)
        rw [List.length_map] at this
        exact this
      refine ⟨_, rfl, _, rfl, q, oo, rr, ll, bl, pl, t, rfl, g1, g2, S.hp, ho, by omega, fun wl H1 hwl0 hk1 hwl => ?_⟩
      have S1 := S.kp0 hk1
      have htl1 := hk1 _ _ htl (by simp)
      have hkk1 := hk.trans (hk1.any _)
      obtain ⟨dxf', fs', hf1, _, hfe, _⟩ := feed_at S1.F1
      refine ⟨_, rfl, f, dxf', fs', rfl, hf1, hfe, f, c, bl, pl, t, n1, rfl, S1.F1, h1, fun z H2 hz0 F2 hz hk2 => ?_⟩
      have S2 := S1.kpf hk2 F2 T.n_BF T.n_CF
      have htl2 := kp_tx hk2 S1.vf htl1
      have hwl2 := kp_tx hk2 S1.vf hwl
      have hkk2 : Kp [r, f, o2] H H2 := hkk1.trans (kp_fresh hk2 (fun x hx => by
        rw [List.mem_singleton.mp hx]
        exact .inl (by simp)))
      refine ⟨.ref z, .tuple (dTx (cutM pl (runM pl t).2)), rfl, .tup (SqT.of hz) (texts_dp _), o1, o2', o3, o4, ?_⟩
      refine ⟨_, rfl, _, rfl, tl, _, rfl, .inl (SqL.of htl2), _, rfl, wl, _, rfl, SqL.of hwl2, fun u hu => ?_⟩
      rw [List.length_map, ecut]
      refine ⟨u, _, rfl, .inl ⟨SqL.of upd_same, fun l hl => ?_⟩⟩
      have hk3 : Kp [] H2 (upd (upd H2 u (.lst ((cutM pl (runM pl t).2).map tv))) l (.tup ((cutM pl (runM pl t).2).map tv))) := by
        have : Kp [] H2 (upd H2 u (.lst ((cutM pl (runM pl t).2).map tv))) := (kp_refl H2).up (.inl hu)
        exact this.up (.inl (this.free hl (by simp)))
      have hl3 : upd (upd H2 u (.lst ((cutM pl (runM pl t).2).map tv))) l (.tup ((cutM pl (runM pl t).2).map tv)) l = some (.tup ((cutM pl (runM pl t).2).map tv)) := upd_same
      generalize upd (upd H2 u (.lst ((cutM pl (runM pl t).2).map tv))) l (.tup ((cutM pl (runM pl t).2).map tv)) = H3 at hk3 hl3
      have S3 := S2.kp0 hk3
      have htl3 := hk3 _ _ htl2 (by simp)
      have hwl3 := hk3 _ _ hwl2 (by simp)
      have hkk3 := hkk2.trans (hk3.any _)
      obtain ⟨b1, ⟨dx1, tp1, cp1, xs1, R1⟩, hc1, hb1, _, hl1⟩ := S3.F1
      obtain ⟨b2, ⟨dx2, tp2, cp2, xs2, R2⟩, hc2, hb2, _, hl2⟩ := S3.F2
      refine ⟨.ref l, .tuple (dTx (cutM pl (runM pl t).2)), rfl, .tup (SqT.of hl3) (texts_dp _), o1, o2', o3, o4, rfl, _, rfl, ?_⟩
      refine iteF' (by rw [decide_eq_true rfl]; rfl) ?_
      refine ⟨_, rfl, _, rfl, f, o2, dx1, dx2, _, _, rfl, rfl, R1.hf, R2.hf, f, o2, c, b1, b2, bl, pl, t, t, _, _, _, _, _, n2, true, false, rfl, ⟨dx1, tp1, cp1, xs1, R1⟩, ⟨dx2, tp2, cp2, xs2, R2⟩, hc1, _, rfl, _, rfl, ?_⟩
      refine iteF' (by simp) ?_
      refine ⟨_, rfl, _, rfl, f, o2, dx1, dx2, _, _, rfl, rfl, R1.hf, R2.hf, f, o2, c, b1, b2, bl, pl, t, t, _, _, _, _, _, n2, true, false, rfl, ⟨dx1, tp1, cp1, xs1, R1⟩, ⟨dx2, tp2, cp2, xs2, R2⟩, hc1, _, rfl, _, rfl, ?_⟩
      refine iteF' (by simp) ?_
      have e0 : t.drop (psM pl t true).flatten.length = [] := by
        show t.drop (cutM pl t).flatten.length = []
        rw [hco.2]
        exact List.drop_length
      refine ⟨_, rfl, _, rfl, _, rfl, _, rfl, f, d, wl, c, bk, bl, pl, t, true, n1 + 1, by rw [e0]; rfl, S3.F1, S3.hd, gk, hbl, hwl3, fun H4 hk4 => ⟨_, rfl, ?_⟩⟩
      have S4 := S3.kp0 hk4
      have htl4 := hk4 _ _ htl3 (by simp)
      have hwl4 := hk4 _ _ hwl3 (by simp)
      have hkk4 := hkk3.trans (hk4.any _)
      have R14 := R1.kp0 hk4
      have hc4 := hc1.kp0 hk4
      refine ⟨_, rfl, f, dx1, _, rfl, R14.hf, f, c, b1, dx1, tp1, cp1, t, _, _, _, true, xs1, rfl, R14, ?_⟩
      have hcc4 := hc4
      obtain ⟨dxc, ab, o, tb, en, sz, rw0, la, ns, cc⟩ := hc4
      refine ⟨_, rfl, c, rfl, _, rfl, ?_⟩
      refine ⟨.inr ⟨_, _, cc.ha⟩, c, bl, pl, t, rfl, hcc4, ho, by omega, fun w5 H5 hw0 hk5 hw5 => ?_⟩
      have R15 := R14.kp0 hk5
      refine ⟨.tuple (dTx (cutM pl t)), .tuple (dTx (cutM pl t)), .tup (SqT.of R15.ht) (texts_dp _), .tup (SqT.of hw5) (texts_dp _), shp_tup lt_w, shp_tup lt_w, _, rfl, ?_⟩
      rw [eqv_same (lay_tup lt_w)]
      have S5 := S4.kp0 hk5
      have htl5 := hk5 _ _ htl4 (by simp)
      have hwl5 := hk5 _ _ hwl4 (by simp)
      have hkk5 := hkk4.trans (hk5.any _)
      have R25 := (R2.kp0 hk4).kp0 hk5
      refine ⟨_, rfl, o2, dx2, _, rfl, R25.hf, rfl, o2, c, bl, pl, t, n2, rfl, S5.F2, h2, fun y H6 hy0 F6 hy6 hk6 => ?_⟩
      have S6 := S5.kpo hk6 F6 T.n_BF T.n_CF
      have htl6 := kp_tx hk6 S5.vo htl5
      have hwl6 := kp_tx hk6 S5.vo hwl5
      have hkk6 : Kp [r, f, o2] H H6 := hkk5.trans (kp_fresh hk6 (fun x hx => by
        rw [List.mem_singleton.mp hx]
        exact .inl (by simp)))
      refine ⟨_, rfl, _, rfl, tl, _, rfl, .inl (SqL.of htl6), _, rfl, wl, _, rfl, SqL.of hwl6, fun u hu => ?_⟩
      rw [List.length_map, ecut]
      refine ⟨u, _, rfl, .inl ⟨SqL.of upd_same, fun l2 hl2 => ?_⟩⟩
      have hk7 : Kp [] H6 (upd (upd H6 u (.lst ((cutM pl (runM pl t).2).map tv))) l2 (.tup ((cutM pl (runM pl t).2).map tv))) := by
        have : Kp [] H6 (upd H6 u (.lst ((cutM pl (runM pl t).2).map tv))) := (kp_refl H6).up (.inl hu)
        exact this.up (.inl (this.free hl2 (by simp)))
      have hl7 : upd (upd H6 u (.lst ((cutM pl (runM pl t).2).map tv))) l2 (.tup ((cutM pl (runM pl t).2).map tv)) l2 = some (.tup ((cutM pl (runM pl t).2).map tv)) := upd_same
      generalize upd (upd H6 u (.lst ((cutM pl (runM pl t).2).map tv))) l2 (.tup ((cutM pl (runM pl t).2).map tv)) = H7 at hk7 hl7
      have S7 := S6.kp0 hk7
      have hy7 := hk7 _ _ hy6 (by simp)
      have hkk7 := hkk6.trans (hk7.any _)
      refine ⟨.tuple (dTx (cutM pl (runM pl t).2)), .tuple (dTx (cutM pl (runM pl t).2)), .tup (SqT.of hy7) (texts_dp _), .tup (SqT.of hl7) (texts_dp _), shp_tup lt_x, shp_tup lt_x, _, rfl, ?_⟩
      rw [eqv_same (lay_tup lt_x)]
      obtain ⟨b17, ⟨dx17, tp17, cp17, xs17, R17⟩, hc17, hb17, _, hl17⟩ := S7.F1
      obtain ⟨b27, ⟨dx27, tp27, cp27, xs27, R27⟩, hc27, hb27, _, hl27⟩ := S7.F2
      refine iteT' rfl ⟨_, rfl, _, rfl, f, o2, dx17, dx27, _, _, rfl, rfl, R17.hf, R27.hf, f, o2, c, b17, b27, bl, pl, t, t, _, _, _, _, _, _, true, true, rfl, ⟨dx17, tp17, cp17, xs17, R17⟩, ⟨dx27, tp27, cp27, xs27, R27⟩, hc17, _, rfl, _, rfl, ?_⟩
      refine iteT' (by simp) ⟨_, rfl, o2, dx27, _, rfl, R27.hf, rfl, o2, c, bl, pl, t, _, true, rfl, S7.F2, fun u1 v1 H8 hk8 hu1 hv1 => ?_⟩
      have hc8 := hc27.kp0 hk8
      have hc8' := hc8
      obtain ⟨dxc, ab, o, tb, en, sz, rw0, la, ns, cc⟩ := hc8
      refine ⟨_, rfl, c, dxc, _, rfl, cc.ha, rfl, _, rfl, c, bl, pl, t, rfl, hc8', ho, by omega, fun v2 H9 hk9 hv2 => ⟨rfl, ?_⟩⟩
      have e1 : v1 = v2 := cheap_unique (fun p hp => (g1.ln p hp).1) (fun _ => Iff.rfl) hv1 hv2
      have e2 : u1 = 0 := by
        rw [e0] at hu1
        obtain ⟨fs, d1, d2, d3⟩ := hu1
        have := d1.zero
        rw [show fs[0]? = fs[([] : Tx0).length]? from rfl, d3] at this
        exact Option.some.inj this
      rw [e1, e2]
      have e3 : decide (V.int (cost bl (psM pl t true) + 0 - v2) = V.int (cost bl (cutM pl t) - v2)) = true := by
        rw [Int.add_zero]
        exact decide_eq_true rfl
      rw [e3]
      refine k H9 (kp_fresh (hkk7.trans ((hk8.trans hk9).any _)) (fun x hx => ?_))
      simp only [List.mem_cons, List.not_mem_nil, or_false] at hx
      rcases hx with rfl | rfl | rfl
      · exact .inl (by simp)
      · exact .inr hf0'
      · exact .inr ho0'
end
end K75
-- part L7
set_option Elab.async false
set_option linter.all false
set_option maxRecDepth 100000
set_option maxHeartbeats 4000000
namespace K75
open PySem PySem.Spec PyProof.Rows L2
/-! a call of a class that a local holds -/
def tMakeL (i : Nat) (C : Addr) (sp : Sp) (dvs : List V) (E : XK) (t : TA) : TE := fun σ H Q => σ[i]? = some (some (.ref C)) ∧ tMake C sp dvs E t σ H Q
section
variable {X : Cx} {CX : CXT} {k i : Nat} {f C : Addr} {fd : FuncData} {ps : List Str} {sp : Sp} {dvs : List V} {ds : List Value} {E : XK} {x : Str} {p pos : Pos} {e : Expr} {es : List Expr} {t : TA}
theorem pe_makeL (M : Mk X.K C f) (F : FnOk X.prog X.w X.K X.mg X.base CX k f fd ps sp) (hr : Room (k + 1) X.A) (hN : X.N[i]? = some x) (hv : Vis X.env.scope x) (hb : Binds X.K fd ps ds) (hd : Vals dvs ds) (hx : Passes CX X E)
    (ha : PA X (e :: es) t) (hdb : (x == ("__debug__" : Str)) = false := by decide) (hcd : (x == ("__classdict__" : Str)) = false := by decide)
    (he : starEach (e :: es) X.env = (false, eval e X.env) :: starEach es X.env := by rfl) (hpl : (backTo pos (starEach es X.env)).any (·.1) = false := by rfl) :
    PE X (.Call (.Name x p) (e :: es) [] pos) (tMakeL i C sp dvs E t) := by
  refine ⟨fun pins s σ H Q I h => ?_⟩
  obtain ⟨hs, ht⟩ := h
  refine wpAny_Call_Name_kw (thn ((pe_var (pos := p) hN hv hdb hcd).run pins s σ H (fun v H1 => v = .ref C ∧ H1 = H) I ⟨.ref C, hs, rfl, rfl⟩) fun u s1 ⟨v, H1, I1, r1, q1⟩ => ?_)
  obtain ⟨rfl, rfl⟩ := q1
  cases r1
  refine PySem.W.callWith_K (h₀ := X.base) I1.ok.mod.kin M.kp (thn (ha.run pos pins s1 σ _ _ I1 ht) fun us s2 ⟨vs, H2, I2, r, q⟩ => ⟨I2.kIn, ?_⟩) he hpl
  exact run_make M F hr hb hd hx I2 r q
end
end K75
-- part N1
set_option Elab.async false
set_option linter.all false
set_option maxRecDepth 100000
set_option maxHeartbeats 4000000
namespace K75
open PySem PySem.Spec PyProof.Rows L2
/-! the two cutters at the law's end -/
instance (t : Tx0) : Decidable (Lt t) := inferInstanceAs (Decidable (∀ c ∈ t, 97 ≤ c ∧ c ≤ 122))
instance (bk : Bk) (t : Tx0) : Decidable (Ov bk t) := inferInstanceAs (Decidable (∀ c ∈ t, [c] ∈ pcs bk))
def bkq : Bk := [([113], 1), ([113, 113], 3)]
def plq : Pl := ⟨[[113], [113, 113]], 2000, [], []⟩
def bka : Bk := [([97], 1), ([98], 1), ([97, 98], 1), ([98, 98, 97], 1)]
def pla : Pl := ⟨[[98, 98, 97], [97, 98], [97], [98]], 3, [], []⟩
theorem good_q : GoodBook bkq := ⟨by decide, by decide, by decide, by decide, by decide, by decide, by decide, by decide⟩
theorem good_a : GoodBook bka := ⟨by decide, by decide, by decide, by decide, by decide, by decide, by decide, by decide⟩
theorem tb_nil (bk : Bk) (n : Nat) : GoodTb bk n [] := ⟨by simp, by simp, by simp, by simp, by simp, by simp⟩
theorem gp_q : GoodPl bkq plq := ⟨List.Perm.refl _, by decide, by decide, tb_nil _ _, tb_nil _ _⟩
theorem gp_a : GoodPl bka pla := ⟨by decide, by decide, by decide, tb_nil _ _, tb_nil _ _⟩
theorem first_nil (w : Tx0) (ss : List Nat) : firstRow [] w ss = none := by
  unfold firstRow
  induction ss with
  | nil => rfl
  | cons s ss ih =>
    rw [List.findSome?_cons]
    exact ih
theorem tell_q {w : Tx0} (h : w.take 1 = [113]) : tellM plq w false = [113] := by
  have h1 : beg [113] w = true := decide_eq_true h.symm
  unfold tellM
  rw [if_neg Bool.false_ne_true]
  show (match firstRow [] w (List.range' 1 w.length) with | some p => p | none => ((plq.order.filter fun p => beg p w).head?).getD []) = _
  rw [first_nil]
  show ((List.filter (fun p => beg p w) [[113], [113, 113]]).head?).getD [] = _
  rw [List.filter_cons_of_pos (p := fun p => beg p w) h1]
  rfl
theorem ov_q (n : Nat) : Ov bkq (List.replicate n 113) := fun c hc => by
  rw [List.eq_of_mem_replicate hc]
  exact List.mem_cons_self ..
theorem far_run : ∀ k : Nat, runM plq (List.replicate (1999 + k) 113) = (List.replicate k [113], List.replicate 1999 113)
  | 0 => runM_stop (by rw [List.length_replicate]; exact (by decide : 1999 < 2000))
  | k + 1 => by
    have ht : (List.replicate (1999 + (k + 1)) 113).take plq.span = List.replicate 2000 113 := by
      rw [List.take_replicate]
      congr 1
      show min 2000 _ = 2000
      omega
    rw [runM_cons good_q gp_q (ov_q _) (by rw [List.length_replicate]; show 2000 ≤ _; omega) (p := [113]) (by rw [ht]; exact (tell_q (by rw [List.take_replicate]; rfl)).symm)]
    have hd : (List.replicate (1999 + (k + 1)) 113).drop [113].length = List.replicate (1999 + k) 113 := by
      rw [List.drop_replicate]
      rfl
    rw [hd, far_run k]
    rfl
theorem run_abb : runM pla [97, 98, 98] = ([[97, 98]], [98]) := by
  rw [runM_cons good_a gp_a (by decide +kernel) (by decide) (p := [97, 98]) (by decide +kernel), runM_stop (by decide)]
  rfl
theorem run_ba : runM pla [98, 97] = ([], [98, 97]) := runM_stop (by decide)
theorem run_b : runM pla [] = ([], []) := runM_stop (by decide)
theorem run_abba : runM pla [97, 98, 98, 97] = ([[97, 98]], [98, 97]) := by
  rw [runM_cons good_a gp_a (by decide +kernel) (by decide) (p := [97, 98]) (by decide +kernel), runM_stop (by decide)]
  rfl
theorem cut_ba : cutM pla [98, 97] = [[98], [97]] := by
  rw [cutM_cons good_a gp_a (by decide +kernel) (by decide) (p := [98]) (by decide +kernel), cutM_cons good_a gp_a (by decide +kernel) (by decide) (p := [97]) (by decide +kernel)]
  show [98] :: [97] :: cutM pla [] = _
  rw [cutM_nil]
theorem cut_abba : cutM pla [97, 98, 98, 97] = [[97, 98], [98], [97]] := by
  rw [cut_run good_a gp_a (by decide +kernel), run_abba, cut_ba]
  rfl
/-! the cheapest prices -/
theorem dp_abba : DPok bka [97, 98, 98, 97] [0, 1, 1, 2, 2] := by
  refine ⟨rfl, fun s h1 h2 => ?_⟩
  have h2 : s < 5 := h2
  obtain rfl | rfl | rfl | rfl : s = 1 ∨ s = 2 ∨ s = 3 ∨ s = 4 := by omega
  · refine ⟨1, rfl, ⟨([97], 1), by decide, by decide, 0, rfl, rfl⟩, ?_⟩
    rintro y ⟨p, hp, hf, v, hv, rfl⟩
    simp only [bka, List.mem_cons, List.not_mem_nil, or_false] at hp
    rcases hp with rfl | rfl | rfl | rfl <;> first | exact absurd hf (by decide) | (cases hv; decide)
  · refine ⟨1, rfl, ⟨([97, 98], 1), by decide, by decide, 0, rfl, rfl⟩, ?_⟩
    rintro y ⟨p, hp, hf, v, hv, rfl⟩
    simp only [bka, List.mem_cons, List.not_mem_nil, or_false] at hp
    rcases hp with rfl | rfl | rfl | rfl <;> first | exact absurd hf (by decide) | (cases hv; decide)
  · refine ⟨2, rfl, ⟨([98], 1), by decide, by decide, 1, rfl, rfl⟩, ?_⟩
    rintro y ⟨p, hp, hf, v, hv, rfl⟩
    simp only [bka, List.mem_cons, List.not_mem_nil, or_false] at hp
    rcases hp with rfl | rfl | rfl | rfl <;> first | exact absurd hf (by decide) | (cases hv; decide)
  · refine ⟨2, rfl, ⟨([98, 98, 97], 1), by decide, by decide, 1, rfl, rfl⟩, ?_⟩
    rintro y ⟨p, hp, hf, v, hv, rfl⟩
    simp only [bka, List.mem_cons, List.not_mem_nil, or_false] at hp
    rcases hp with rfl | rfl | rfl | rfl <;> first | exact absurd hf (by decide) | (cases hv; decide)
theorem dp_abb : DPok bka [97, 98, 98] [0, 1, 1, 2] := by
  refine ⟨rfl, fun s h1 h2 => ?_⟩
  have h2 : s < 4 := h2
  obtain rfl | rfl | rfl : s = 1 ∨ s = 2 ∨ s = 3 := by omega
  · refine ⟨1, rfl, ⟨([97], 1), by decide, by decide, 0, rfl, rfl⟩, ?_⟩
    rintro y ⟨p, hp, hf, v, hv, rfl⟩
    simp only [bka, List.mem_cons, List.not_mem_nil, or_false] at hp
    rcases hp with rfl | rfl | rfl | rfl <;> first | exact absurd hf (by decide) | (cases hv; decide)
  · refine ⟨1, rfl, ⟨([97, 98], 1), by decide, by decide, 0, rfl, rfl⟩, ?_⟩
    rintro y ⟨p, hp, hf, v, hv, rfl⟩
    simp only [bka, List.mem_cons, List.not_mem_nil, or_false] at hp
    rcases hp with rfl | rfl | rfl | rfl <;> first | exact absurd hf (by decide) | (cases hv; decide)
  · refine ⟨2, rfl, ⟨([98], 1), by decide, by decide, 1, rfl, rfl⟩, ?_⟩
    rintro y ⟨p, hp, hf, v, hv, rfl⟩
    simp only [bka, List.mem_cons, List.not_mem_nil, or_false] at hp
    rcases hp with rfl | rfl | rfl | rfl <;> first | exact absurd hf (by decide) | (cases hv; decide)
theorem dp_b : DPok bka [98] [0, 1] := by
  refine ⟨rfl, fun s h1 h2 => ?_⟩
  have h2 : s < 2 := h2
  obtain rfl : s = 1 := by omega
  refine ⟨1, rfl, ⟨([98], 1), by decide, by decide, 0, rfl, rfl⟩, ?_⟩
  rintro y ⟨p, hp, hf, v, hv, rfl⟩
  simp only [bka, List.mem_cons, List.not_mem_nil, or_false] at hp
  rcases hp with rfl | rfl | rfl | rfl <;> first | exact absurd hf (by decide) | (cases hv; decide)
theorem cheap_abba : Cheap bka [97, 98, 98, 97] 2 := ⟨_, dp_abba, rfl, rfl⟩
theorem cheap_abb : Cheap bka [97, 98, 98] 2 := ⟨_, dp_abb, rfl, rfl⟩
theorem cheap_b : Cheap bka [98] 1 := ⟨_, dp_b, rfl, rfl⟩
theorem cheap_e : Cheap bka [] 0 := ⟨_, dp_nil _ _, rfl, rfl⟩
end K75
-- part L8
set_option Elab.async false
set_option linter.all false
set_option maxRecDepth 100000
set_option maxHeartbeats 4000000
namespace K75
open PySem PySem.Spec PyProof.Rows L2
theorem sq_keep {K : PySem.W.Frag} {H H' : Hp} {a : Addr} {xs : List V} (h : SqL K H a xs) (k : Kp [] H H') : SqL K H' a xs :=
  h.elim (fun h => .inl (h.elim (fun h => .inl (k _ _ h (by simp))) fun ⟨o, h⟩ => .inr ⟨o, k _ _ h (by simp)⟩)) fun h => .inr h
theorem flat_rep (n x : Nat) : (List.replicate n [x]).flatten = List.replicate n x := by
  induction n with
  | zero => rfl
  | succ n ih =>
    rw [List.replicate_succ, List.flatten_cons, ih]
    rfl
theorem far_ok {as bs : List Tx0} {t : Tx0} (ha : ∀ u ∈ as, Lt u) (hb : ∀ u ∈ bs, Lt u) (ht : Lt t) : (PyData.list [.tuple (dTx as), .tuple (dTx bs), .str (SX.S t)]).canLay0 = true ∧ SeqAt.shaped (.list [.tuple (dTx as), .tuple (dTx bs), .str (SX.S t)]) = true := by
  have a1 := texts_lay as ha
  have b1 := texts_lay bs hb
  have c : (PyData.list [.tuple (dTx as), .tuple (dTx bs), .str (SX.S t)]).canLay0 = true := by simp only [PyData.canLay0, PyData.canLayAll0, a1.1, b1.1, lt_ok ht, Bool.and_true]
  refine ⟨c, ?_⟩
  unfold SeqAt.shaped
  refine Bool.and_eq_true_iff.mpr ⟨c, decide_eq_true ?_⟩
  have := a1.2
  have := b1.2
  simp only [PyData.depth, PyData.depthAll]
  omega
/-- the pieces, the longest first -/
def byLen (ps : List Tx0) : List Tx0 := ps.mergeSort fun a b => decide (b.length ≤ a.length)
theorem by_len : byLen [[97], [97, 98], [98], [98, 98, 97]] = [[98, 98, 97], [97, 98], [97], [98]] := by
  unfold byLen
  simp [List.mergeSort, List.MergeSort.Internal.splitInTwo, List.merge]
theorem srt_one {ps : List Tx0} (h : Srt ps) (p : ps.Perm (pcs bka)) : ps = [[97], [97, 98], [98], [98, 98, 97]] :=
  srt_eq h (by unfold Srt; decide +kernel) (p.trans (by decide))
def sp_longest (CB CC PT : Addr) : Sp := fun vs H Q _ => ∃ (b : Addr) (bk : Bk), vs = [.ref CC, .ref b] ∧ BookH CB H b bk ∧ H PT = some (.tbl #[]) ∧
  ∀ (c : Addr) (n : Nat) (H' : Hp), (∀ t ∈ pcs bk, t.length ≤ n) → (∃ t ∈ pcs bk, t.length = n) → CutH CB CC H' c bk ⟨byLen (pcs bk), n, [], []⟩ → Q (.ref c) H'
section
variable {P : Program} {w : World} {K : PySem.W.Frag} {mg : Str → Option Value} {base : Heap} {CB CC CF PT : Addr}
def sp_law (K : PySem.W.Frag) (PT : Addr) : Sp := fun vs H Q _ => ∃ (a : Addr) (ns : List Int), vs = [.ref a] ∧ SqL K H a (ns.map V.int) ∧ H PT = some (.tbl #[]) ∧ ∀ H', Q (.bl true) H'
theorem c_law (T : Ty K mg CB CC CF) (cl : Cmt P w K mg base 9 CC "longest_first" (sp_longest CB CC PT)) : CalG P w K mg base 11 "law" (sp_law K PT) := by
  refine calG_of T.d_law sc_law (fun _ _ _ _ _ _ us hl => match us, hl with | [_], _ => rfl) (fun vs H Q E h => ?_) (fun cdv A outer f0 s H vs Q E hg hr h => ?_)
  · obtain ⟨r, ns, rfl, _⟩ := h
    rfl
  · obtain ⟨a, ns, rfl, L, hPT, k⟩ := h
    have h3 : sizeLine = 16777216 := sizeLine_eq
    have hg0 : (A.deeper (envOfC "law" (defScope s_law) s.heap.objs.size f0 cdv)).guards = some [] := hg
    obtain ⟨f1, fd, M, F, hm, g0, hkb⟩ := mk_view (P := P) (w := w) (base := base) T
    refine ⟨_, (C8.pss_cut (ps_for PassesOwn.never rfl (pi_range1 (by rfl) T.n_range (pa_cons (pe_callB (call_max2 rfl) (by rfl) T.n_max (by decide +kernel) (pa_cons pe_int (pa_cons (pe_callB (call_min2 rfl) (by rfl) T.n_min (by decide +kernel) (pa_cons pe_int (pa_cons (pe_callB call_len_seq (by rfl) T.n_len (by decide +kernel) (pa_cons (pv 0) pa_nil)) pa_nil))) pa_nil))) pa_nil)) (pg_name (i := 1) sc_law.nd rfl (Or.inl rfl))
    (pss_cons (ps_set (i := 2) sc_law.nd rfl (Or.inl rfl) (C8.pe_c (c_reel_of T.toTx) hr (by decide) (by rfl) (pa_cons (pv 0) (pa_cons (pv 1) pa_nil))))
    (pss_one (ps_if (pt_not (pt_val (pe_cg (c_right T) hg0 hr (by decide) (by rfl) (pa_cons (pv 2) pa_nil))))
      (pss_one (ps_ret pe_bl))
      pss_nil))))
  (pss_cons (ps_set (i := 3) sc_law.nd rfl (Or.inl rfl) (C8.pe_mk (c_Feeder T) hr (by decide) (by rfl) (pa_cons (pe_makeK M F (hr.mono (by decide)) (by rfl) hm hkb pass0 (pa_cons (C8.pe_mk (c_Book T) hr (by decide) (by rfl) (pa_cons (pe_disp (pps_cons pe_str pe_int (pps_cons pe_str pe_int pps_nil)) (by rfl) (by rfl) (fun z => by cases z) (by decide)) pa_nil)) (pa_cons (pe_tup (pa_cons pe_str (pa_cons pe_str pa_nil))) pa_nil)) (pk_cons pe_int pk_nil)) pa_nil)))
  (C8.pss_cut (ps_if (pt_cmpR (op_neD hr.units) (pe_lst (pa_cons (C8.pe_mt (c_Feeder_feed T) hr (by decide) (pv 3) (pa_cons (pe_op op_rep_str pe_str pe_int) pa_nil)) (pa_cons (C8.pe_mt (c_Feeder_feed T) hr (by decide) (pv 3) (pa_cons (pe_op op_rep_str pe_str pe_int) pa_nil)) (pa_cons (pe_pr (c_Feeder_waiting T) hr (by decide) (pv 3)) pa_nil)))) (pe_lst (pa_cons (pe_tup pa_nil) (pa_cons (pe_op op_repT (pe_tup (pa_cons pe_str pa_nil)) pe_int) (pa_cons (pe_op op_rep_str pe_str pe_int) pa_nil)))) (nomark _))
    (pss_one (ps_ret pe_bl))
    pss_nil)
  (pss_cons (ps_set (i := 4) sc_law.nd rfl (Or.inl rfl) (C8.pe_mk (c_Feeder T) hr (by decide) (by rfl) (pa_cons (pe_cm cl hr (by decide) (pe_glob (v := .ref CC) (by rfl) T.g_Cutter rfl) (pa_cons (C8.pe_mk (c_Book T) hr (by decide) (by rfl) (pa_cons (pe_disp (pps_cons pe_str pe_int (pps_cons pe_str pe_int (pps_cons pe_str pe_int (pps_cons pe_str pe_int pps_nil)))) (by rfl) (by rfl) (fun z => by cases z) (by decide)) pa_nil)) pa_nil)) pa_nil)))
  (pss_cons (ps_set (i := 5) sc_law.nd rfl (Or.inl rfl) (pe_lst (pa_cons (C8.pe_mt (c_Feeder_feed T) hr (by decide) (pv 4) (pa_cons pe_str pa_nil)) (pa_cons (pe_pr (c_Feeder_waiting T) hr (by decide) (pv 4)) (pa_cons (C8.pe_mt0 (c_Feeder_behind T) hr (by decide) (pv 4)) (pa_cons (C8.pe_mt (c_Feeder_feed T) hr (by decide) (pv 4) (pa_cons pe_str pa_nil)) (pa_cons (C8.pe_mt0 (c_Feeder_end T) hr (by decide) (pv 4)) (pa_cons (C8.pe_mt0 (c_Feeder_behind T) hr (by decide) (pv 4)) pa_nil))))))))
  (pss_one (ps_ret (pe_cmpR (op_eqD hr.units) (pv 5) (pe_lst (pa_cons (pe_tup (pa_cons pe_str pa_nil)) (pa_cons pe_str (pa_cons pe_int (pa_cons (pe_tup pa_nil) (pa_cons (pe_tup (pa_cons pe_str (pa_cons pe_str pa_nil))) (pa_cons pe_int pa_nil))))))) (nomark _))))))))), ?_⟩
    refine ⟨fun σ' H' => ∃ (x1 x2 : Option V), σ' = [some (.ref a), x1, x2, none, none, none] ∧ Kp [] H H', ?_, ?_⟩
    · refine ⟨_, rfl, a, _, rfl, .inl L, _, _, rfl, _, _, rfl, ?_⟩
      obtain ⟨m, hm1, hm2⟩ : ∃ m : Nat, (if (if (((List.map V.int ns).length : Nat) : Int) < 5 then (((List.map V.int ns).length : Nat) : Int) else 5) > 1 then (if (((List.map V.int ns).length : Nat) : Int) < 5 then (((List.map V.int ns).length : Nat) : Int) else 5) else 1) = (m : Int) ∧ m ≤ 5 := by
        refine ⟨(if (if (((List.map V.int ns).length : Nat) : Int) < 5 then (((List.map V.int ns).length : Nat) : Int) else 5) > 1 then (if (((List.map V.int ns).length : Nat) : Int) < 5 then (((List.map V.int ns).length : Nat) : Int) else 5) else 1).toNat, ?_, ?_⟩
        · split <;> split <;> omega
        · split <;> split <;> omega
      rw [hm1]
      refine ⟨m, by rfl, by omega, by omega, ?_⟩
      refine for_range (n := m) (fun i σ' H' => ∃ (x1 x2 : Option V), σ' = [some (.ref a), x1, x2, none, none, none] ∧ Kp [] H H') ⟨none, none, rfl, kp_refl H⟩ ?_ ?_
      · rintro i σ' H1 hi ⟨x1, x2, rfl, hk⟩
        refine ⟨_, rfl, _, rfl, a, ns, i, by rw [Int.zero_add]; rfl, sq_keep L hk, by omega, fun p x y z hp => ?_⟩
        have hk1 : Kp [] H1 (upd H1 p (.lst [.int x, .int y, .int z])) := (kp_refl H1).up (.inl hp)
        refine ⟨_, rfl, p, rfl, reel_same x y z, fun H2 hk2 => ⟨_, rfl, ?_⟩⟩
        exact ⟨_, _, rfl, hk.trans (kp_fresh (D := []) ((hk1.any [p]).trans hk2) (fun x hx => by
          rw [List.mem_singleton.mp hx]
          exact .inr hp))⟩
      · rintro σ' H1 ⟨x1, x2, rfl, hk⟩
        exact ⟨x1, x2, rfl, hk⟩
    · rintro σ' H1 ⟨x1, x2, rfl, hk1⟩
      have hPT1 := hk1 _ _ hPT (by simp)
      clear hk1 L
      intro d hd0
      refine ⟨upd_same, [(.inr "q", .int 1), (.inr "qq", .int 3)], rfl, by decide, ?_⟩
      have ed : mergeK [] [((.inr "q" : Key), V.int 1), (.inr "qq", .int 3)] = dB bkq := by rfl
      rw [ed]
      have hk2 : Kp [] H1 (upd (upd H1 d (.dK [])) d (.dK (dB bkq))) := ((kp_refl H1).up (.inl hd0)).up (.inl hd0)
      have hd2 : upd (upd H1 d (.dK [])) d (.dK (dB bkq)) d = some (.dK (dB bkq)) := upd_same
      generalize upd (upd H1 d (.dK [])) d (.dK (dB bkq)) = H2 at hk2 hd2
      intro bo dxb hbo0 hdxb0 neb
      have hk23 : Kp [] H2 (upd (upd H2 dxb (.own bo)) bo (.ins CB dxb [])) := ((kp_refl H2).up (.inl hdxb0)).up (.inl hbo0)
      have hbo3 : upd (upd H2 dxb (.own bo)) bo (.ins CB dxb []) bo = some (.ins CB dxb []) := upd_same
      have hd3 := hk23 _ _ hd2 (by simp)
      generalize upd (upd H2 dxb (.own bo)) bo (.ins CB dxb []) = H3 at hk23 hbo3 hd3
      refine ⟨bo, dxb, d, bkq, rfl, hbo3, hd3, good_q, fun bl H4 hbl hb4 hk34 => ⟨rfl, by show 2 ≤ sizeLine; omega, fun o ho0 => ⟨rfl, rfl, ?_⟩⟩⟩
      have hk24 : Kp [] H2 H4 := kp_fresh (D := []) ((hk23.any [bo]).trans hk34) (fun x hx => by
        rw [List.mem_singleton.mp hx]
        exact .inr hbo0)
      have hk45 : Kp [] H4 (upd H4 o (.tup [.str "q", .str "qq"])) := (kp_refl H4).up (.inl ho0)
      have ho5 : upd H4 o (.tup [.str "q", .str "qq"]) o = some (.tup (plq.order.map tv)) := upd_same
      have hb5 := hb4.kp0 hk45
      generalize upd H4 o (.tup [.str "q", .str "qq"]) = H5 at hk45 ho5 hb5
      intro c dxc hc0 hdxc0 nec
      have hk56 : Kp [] H5 (upd (upd H5 dxc (.own c)) c (.ins CC dxc [])) := ((kp_refl H5).up (.inl hdxc0)).up (.inl hc0)
      have hc6 : upd (upd H5 dxc (.own c)) c (.ins CC dxc []) c = some (.ins CC dxc []) := upd_same
      have hb6 := hb5.kp0 hk56
      have ho6 := hk56 _ _ ho5 (by simp)
      generalize upd (upd H5 dxc (.own c)) c (.ins CC dxc []) = H6 at hk56 hc6 hb6 ho6
      refine ⟨c, dxc, bo, o, .int 2000, .non, .non, bl, plq, rfl, hc6, hb6, ho6, gp_q.perm hbl, .inl rfl, .inr ⟨rfl, rfl⟩, .inr ⟨rfl, rfl⟩, fun H7 hc7 hk67 => ⟨rfl, ?_⟩⟩
      have hk57 : Kp [] H5 H7 := kp_fresh (D := []) ((hk56.any [c]).trans hk67) (fun x hx => by
        rw [List.mem_singleton.mp hx]
        exact .inr hc0)
      intro f dxf hf0 hdxf0 nef
      have hk78 : Kp [] H7 (upd (upd H7 dxf (.own f)) f (.ins CF dxf [])) := ((kp_refl H7).up (.inl hdxf0)).up (.inl hf0)
      have hf8 : upd (upd H7 dxf (.own f)) f (.ins CF dxf []) f = some (.ins CF dxf []) := upd_same
      have hc8 := hc7.kp0 hk78
      generalize upd (upd H7 dxf (.own f)) f (.ins CF dxf []) = H8 at hk78 hf8 hc8
      refine ⟨f, dxf, c, bl, plq, rfl, hf8, hc8, fun H9 F9 hk89 => ⟨rfl, ?_⟩⟩
      have hk79 : Kp [] H7 H9 := kp_fresh (D := []) ((hk78.any [f]).trans hk89) (fun x hx => by
        rw [List.mem_singleton.mp hx]
        exact .inr hf0)
      have hPT9 := ((((hk2.trans hk24).trans hk45).trans hk57).trans hk79) _ _ hPT1 (by simp)
      clear hk79 hk89 hk78 hk57 hk67 hk56 hk45 hk24 hk34 hk23 hk2
      refine ⟨fun σ' H' => σ' = [some (.ref a), x1, x2, some (.ref f), none, none] ∧ H' PT = some (.tbl #[]), ?_, ?_⟩
      · obtain ⟨dx1, fs1, hf1, hl1, _, _⟩ := feed_at F9
        have e1 : (List.replicate 1999 [113]).flatten = List.replicate 1999 113 := flat_rep _ _
        have e2 : (List.replicate 11 [113]).flatten = List.replicate 11 113 := flat_rep _ _
        have opl : ∀ m, Ov bl (List.replicate m 113) := fun m => ov_perm hbl (ov_q m)
        have r0 : runM plq [] = ([], []) := runM_stop (by decide)
        have r1 := far_run 0
        have r2 := far_run 11
        refine ⟨_, rfl, f, dx1, fs1, rfl, hf1, hl1, [113], 1999, rfl, rfl, by simp, by omega, by decide, f, c, bl, plq, [], _, 0, rfl, F9, by rw [e1]; exact opl _, by rw [e1, List.length_replicate]; decide, by omega, fun z1 H10 hz10 F10 hz1 hk10 => ?_⟩
        rw [e1, List.nil_append] at F10
        rw [r0, e1] at hz1
        have hz1' : H10 z1 = some (.tup ([] : List V)) := by
          rw [hz1]
          show some (HO.tup ((runM plq ([] ++ List.replicate 1999 113)).1.map tv)) = _
          rw [List.nil_append, show runM plq (List.replicate 1999 113) = _ from r1]
          rfl
        have v9 : VS CF H9 [f] := fun x hx => by
          rw [List.mem_singleton.mp hx]
          exact .inr (feed_ins F9)
        have hPT10 : H10 PT = some (.tbl #[]) := kp_vs hk10 v9 hPT9 (fun _ _ _ e => by cases e) (fun _ _ e => by cases e)
        obtain ⟨dx2, fs2, hf2, hl2, _, _⟩ := feed_at F10
        refine ⟨_, rfl, f, dx2, fs2, rfl, hf2, hl2, [113], 11, rfl, rfl, by simp, by omega, by decide, f, c, bl, plq, _, _, 1, rfl, F10, by rw [e2]; exact opl _, by rw [e2, List.length_replicate, List.length_replicate]; decide, by omega, fun z2 H11 hz20 F11 hz2 hk11 => ?_⟩
        rw [e2, List.replicate_append_replicate] at F11
        rw [show runM plq (List.replicate 1999 113) = _ from r1, e2] at hz2
        have hz2' : H11 z2 = some (.tup ((List.replicate 11 [113]).map tv)) := by
          rw [hz2]
          show some (HO.tup ((runM plq (List.replicate 1999 113 ++ List.replicate 11 113)).1.map tv)) = _
          rw [List.replicate_append_replicate, r2]
        have v10 : VS CF H10 [f] := fun x hx => by
          rw [List.mem_singleton.mp hx]
          exact .inr (feed_ins F10)
        have hPT11 : H11 PT = some (.tbl #[]) := kp_vs hk11 v10 hPT10 (fun _ _ _ e => by cases e) (fun _ _ e => by cases e)
        have hz1'' : H11 z1 = some (.tup ([] : List V)) := kp_vs hk11 v10 hz1' (fun _ _ _ e => by cases e) (fun _ _ e => by cases e)
        have hre := rest_eq (t := List.replicate (1999 + 11) 113) (good_q.perm hbl) (gp_q.perm hbl) (opl _)
        rw [r2] at hre
        obtain ⟨b2, ⟨dx3, tp3, cp3, xs3, R3⟩, hc3, hb3, _, hl3⟩ := F11
        refine ⟨_, rfl, f, dx3, _, rfl, R3.hf, f, c, b2, List.replicate (1999 + 11) 113, _, _, _, false, rfl, ⟨dx3, tp3, cp3, xs3, R3⟩, hl3, ?_⟩
        rw [hre]
        refine ⟨by show 3 ≤ sizeLine; omega, fun l1 hl10 => ⟨by show 0 ≤ sizeLine; omega, fun u1 hu1 => ⟨by show 1 ≤ sizeLine; omega, fun u2 hu2 => ⟨u2, 11, _, rfl, rfl, SqT.of upd_same, by simp, by omega, by omega, by decide, fun u3 hu3 => ⟨[113], 1999, rfl, rfl, by simp, by omega, by decide, by show 3 ≤ sizeLine; omega, fun l2 hl20 => ?_⟩⟩⟩⟩⟩
        have kA : Kp [] H11 (upd H11 l1 (HO.lst [V.ref z1, V.ref z2, tv (List.replicate 11 [113], List.replicate 1999 113).snd])) := (kp_refl H11).up (.inl hl10)
        have pl1 : upd H11 l1 (HO.lst [V.ref z1, V.ref z2, tv (List.replicate 11 [113], List.replicate 1999 113).snd]) l1 = some (.lst [V.ref z1, V.ref z2, tv (List.replicate 1999 113)]) := upd_same
        generalize upd H11 l1 (HO.lst [V.ref z1, V.ref z2, tv (List.replicate 11 [113], List.replicate 1999 113).snd]) = HA at kA pl1 hu1 hu2 hu3 hl20
        have kB : Kp [] HA (upd HA u1 (.tup [])) := (kp_refl HA).up (.inl hu1)
        have pu1 : upd HA u1 (.tup []) u1 = some (.tup []) := upd_same
        generalize upd HA u1 (.tup []) = HB at kB pu1 hu2 hu3 hl20
        have kC : Kp [] HB (upd HB u2 (.tup [V.str (Str.ofString "q")])) := (kp_refl HB).up (.inl hu2)
        generalize upd HB u2 (.tup [V.str (Str.ofString "q")]) = HC at kC hu3 hl20
        have kD : Kp [] HC (upd HC u3 (HO.tup (List.replicate (Int.toNat 11) [V.str (Str.ofString "q")]).flatten)) := (kp_refl HC).up (.inl hu3)
        have pu3 : upd HC u3 (HO.tup (List.replicate (Int.toNat 11) [V.str (Str.ofString "q")]).flatten) u3 = some (.tup ((List.replicate 11 [113]).map tv)) := by
          rw [upd_same]
          rfl
        generalize upd HC u3 (HO.tup (List.replicate (Int.toNat 11) [V.str (Str.ofString "q")]).flatten) = HD at kD pu3 hl20
        rw [e1]
        have kE : Kp [] HD (upd HD l2 (HO.lst [V.ref u1, V.ref u3, tv (List.replicate 1999 113)])) := (kp_refl HD).up (.inl hl20)
        have pl2 : upd HD l2 (HO.lst [V.ref u1, V.ref u3, tv (List.replicate 1999 113)]) l2 = some (.lst [V.ref u1, V.ref u3, tv (List.replicate 1999 113)]) := upd_same
        generalize upd HD l2 (HO.lst [V.ref u1, V.ref u3, tv (List.replicate 1999 113)]) = HE at kE pl2
        have kDE := kD.trans kE
        have kBE := (kB.trans kC).trans kDE
        have kAE := kA.trans kBE
        have ltq : ∀ u ∈ List.replicate 11 [113], Lt u := fun u hu => by
          rw [List.eq_of_mem_replicate hu]
          decide
        obtain ⟨fk1, fk2⟩ := far_ok (as := []) (bs := List.replicate 11 [113]) (t := List.replicate 1999 113) (fun _ h => by cases h) ltq (ov_lt good_q (ov_q _))
        refine ⟨.list [.tuple (dTx []), .tuple (dTx (List.replicate 11 [113])), .str (SX.S (List.replicate 1999 113))], .list [.tuple (dTx []), .tuple (dTx (List.replicate 11 [113])), .str (SX.S (List.replicate 1999 113))], .lst (SqL.of (kBE _ _ pl1 (by simp))) (.cons (.tup (SqT.of (kAE _ _ hz1'' (by simp))) (texts_dp [])) (.cons (.tup (SqT.of (kAE _ _ hz2' (by simp))) (texts_dp _)) (.cons (.str _) .nil))),
          .lst (SqL.of pl2) (.cons (.tup (SqT.of ((kC.trans kDE) _ _ pu1 (by simp))) (texts_dp [])) (.cons (.tup (SqT.of (kE _ _ pu3 (by simp))) (texts_dp _)) (.cons (.str _) .nil))), fk2, fk2, _, rfl, ?_⟩
        rw [eqv_same fk1]
        exact ⟨rfl, kAE _ _ hPT11 (by simp)⟩
      · rintro σ' H1 ⟨rfl, hPT1⟩
        refine ⟨rfl, ?_⟩
        intro d hd0
        refine ⟨upd_same, [(.inr "a", .int 1), (.inr "b", .int 1), (.inr "ab", .int 1), (.inr "bba", .int 1)], rfl, by decide, ?_⟩
        have ed : mergeK [] [((.inr "a" : Key), V.int 1), (.inr "b", .int 1), (.inr "ab", .int 1), (.inr "bba", .int 1)] = dB bka := by rfl
        rw [ed]
        have hk2 : Kp [] H1 (upd (upd H1 d (.dK [])) d (.dK (dB bka))) := ((kp_refl H1).up (.inl hd0)).up (.inl hd0)
        have hd2 : upd (upd H1 d (.dK [])) d (.dK (dB bka)) d = some (.dK (dB bka)) := upd_same
        generalize upd (upd H1 d (.dK [])) d (.dK (dB bka)) = H2 at hk2 hd2
        intro bo dxb hbo0 hdxb0 neb
        have hk23 : Kp [] H2 (upd (upd H2 dxb (.own bo)) bo (.ins CB dxb [])) := ((kp_refl H2).up (.inl hdxb0)).up (.inl hbo0)
        have hbo3 : upd (upd H2 dxb (.own bo)) bo (.ins CB dxb []) bo = some (.ins CB dxb []) := upd_same
        have hd3 := hk23 _ _ hd2 (by simp)
        generalize upd (upd H2 dxb (.own bo)) bo (.ins CB dxb []) = H3 at hk23 hbo3 hd3
        refine ⟨bo, dxb, d, bka, rfl, hbo3, hd3, good_a, fun bl H4 hbl hb4 hk34 => ⟨rfl, ?_⟩⟩
        have hk24 : Kp [] H2 H4 := kp_fresh (D := []) ((hk23.any [bo]).trans hk34) (fun x hx => by
          rw [List.mem_singleton.mp hx]
          exact .inr hbo0)
        have hPT4 := (hk2.trans hk24) _ _ hPT1 (by simp)
        refine ⟨bo, bl, rfl, hb4, hPT4, fun c n H5 hn1 hn2 hc5 => ?_⟩
        have hpc : pcs bl = [[97], [97, 98], [98], [98, 98, 97]] := by
          obtain ⟨_, _, _, _, _, _, _, b⟩ := hb4
          exact srt_one b.so (hbl.map _)
        have hn : n = 3 := by
          rw [hpc] at hn1 hn2
          have h1 := hn1 [98, 98, 97] (by decide)
          obtain ⟨t, ht, e⟩ := hn2
          have h2 : t.length ≤ 3 := (by decide : ∀ t ∈ ([[97], [97, 98], [98], [98, 98, 97]] : List Tx0), t.length ≤ 3) t ht
          have h1 : 3 ≤ n := h1
          omega
        have epl : (⟨byLen (pcs bl), n, [], []⟩ : Pl) = pla := by
          rw [hn, hpc, by_len]
          rfl
        rw [epl] at hc5
        intro f2 dxf hf0 hdxf0 nef
        have hk56 : Kp [] H5 (upd (upd H5 dxf (.own f2)) f2 (.ins CF dxf [])) := ((kp_refl H5).up (.inl hdxf0)).up (.inl hf0)
        have hf6 : upd (upd H5 dxf (.own f2)) f2 (.ins CF dxf []) f2 = some (.ins CF dxf []) := upd_same
        have hc6 := hc5.kp0 hk56
        generalize upd (upd H5 dxf (.own f2)) f2 (.ins CF dxf []) = H6 at hk56 hf6 hc6
        refine ⟨f2, dxf, c, bl, pla, rfl, hf6, hc6, fun H7 F7 hk67 => ⟨rfl, ?_⟩⟩
        have opl : ∀ {t}, Ov bka t → Ov bl t := fun h => ov_perm hbl h
        have mem : ∀ p, p ∈ bka ↔ p ∈ bl := fun p => hbl.mem_iff.symm
        have ln : ∀ p ∈ bka, 1 ≤ p.1.length := fun p hp => (good_a.ln p hp).1
        have r0 : runM pla [] = ([], []) := run_b
        obtain ⟨dx1, fs1, hf7, hl7, _, _⟩ := feed_at F7
        refine ⟨_, rfl, f2, dx1, fs1, rfl, hf7, hl7, f2, c, bl, pla, [], [97, 98, 98], 0, rfl, F7, opl (by decide), by decide, by omega, fun z1 H8 hz10 F8 hz1 hk78 => ?_⟩
        rw [r0] at hz1
        have hz1' : H8 z1 = some (.tup ([[97, 98]].map tv)) := by
          rw [hz1]
          show some (HO.tup ((runM pla [97, 98, 98]).1.map tv)) = _
          rw [run_abb]
        have F8 : FeedH CB CC CF H8 f2 c bl pla [97, 98, 98] false 1 := F8
        have hre := rest_eq (t := [97, 98, 98]) (good_a.perm hbl) (gp_a.perm hbl) (opl (by decide))
        rw [run_abb] at hre
        have ep : psM pla [97, 98, 98] false = [[97, 98]] := by
          show (runM pla [97, 98, 98]).1 = _
          rw [run_abb]
        obtain ⟨b2, ⟨dx3, tp3, cp3, xs3, R3⟩, hc3, hb3, _, hl3⟩ := id F8
        refine ⟨_, rfl, f2, dx3, _, rfl, R3.hf, f2, c, b2, [97, 98, 98], _, _, _, false, rfl, ⟨dx3, tp3, cp3, xs3, R3⟩, hl3, ?_⟩
        rw [hre]
        refine ⟨_, rfl, f2, dx3, _, rfl, R3.hf, rfl, f2, c, bl, pla, [97, 98, 98], 1, false, rfl, F8, fun u v H9 hk89 hu hv => ?_⟩
        rw [hre] at hu
        have eu : (1 : Int) = u := cheap_unique ln mem cheap_b hu
        have ev : (2 : Int) = v := cheap_unique ln mem cheap_abb hv
        have ec : cost bl (psM pla [97, 98, 98] false) = 1 := by
          rw [cost_perm good_a hbl, ep]
          rfl
        rw [ec, ← eu, ← ev]
        have F9 := F8.kp0 hk89
        have hz9 := hk89 _ _ hz1' (by simp)
        obtain ⟨dx4, fs4, hf9, hl9, _, _⟩ := feed_at F9
        refine ⟨_, rfl, f2, dx4, fs4, rfl, hf9, hl9, f2, c, bl, pla, [97, 98, 98], [97], 1, rfl, F9, opl (by decide), by decide, by omega, fun z2 H10 hz20 F10 hz2 hk910 => ?_⟩
        have v9 : VS CF H9 [f2] := fun x hx => by
          rw [List.mem_singleton.mp hx]
          exact .inr (feed_ins F9)
        have hz10 : H10 z1 = some (.tup ([[97, 98]].map tv)) := kp_vs hk910 v9 hz9 (fun _ _ _ e => by cases e) (fun _ _ e => by cases e)
        rw [run_abb] at hz2
        have hz2' : H10 z2 = some (.tup ([] : List V)) := by
          rw [hz2]
          show some (HO.tup ((runM pla [98, 97]).1.map tv)) = _
          rw [run_ba]
          rfl
        have F10 : FeedH CB CC CF H10 f2 c bl pla [97, 98, 98, 97] false 2 := F10
        obtain ⟨dx5, fs5, hf10, _, hl10, _⟩ := feed_at F10
        refine ⟨_, rfl, f2, dx5, fs5, rfl, hf10, hl10, f2, c, bl, pla, [97, 98, 98, 97], 2, rfl, F10, by omega, fun z3 H11 hz30 F11 hz3 hk1011 => ?_⟩
        have v10 : VS CF H10 [f2] := fun x hx => by
          rw [List.mem_singleton.mp hx]
          exact .inr (feed_ins F10)
        have hz11 : H11 z1 = some (.tup ([[97, 98]].map tv)) := kp_vs hk1011 v10 hz10 (fun _ _ _ e => by cases e) (fun _ _ e => by cases e)
        have hz11' : H11 z2 = some (.tup ([] : List V)) := kp_vs hk1011 v10 hz2' (fun _ _ _ e => by cases e) (fun _ _ e => by cases e)
        rw [run_abba, cut_ba] at hz3
        obtain ⟨dx6, fs6, hf11, _, _, hl11⟩ := feed_at F11
        refine ⟨_, rfl, f2, dx6, fs6, rfl, hf11, hl11, f2, c, bl, pla, [97, 98, 98, 97], _, true, rfl, F11, fun u3 v3 H12 hk1112 hu3 hv3 => ?_⟩
        have ep3 : psM pla [97, 98, 98, 97] true = [[97, 98], [98], [97]] := by
          show cutM pla [97, 98, 98, 97] = _
          rw [cut_abba]
        rw [ep3] at hu3
        have eu3 : (0 : Int) = u3 := cheap_unique ln mem cheap_e hu3
        have ev3 : (2 : Int) = v3 := cheap_unique ln mem cheap_abba hv3
        have ec3 : cost bl (psM pla [97, 98, 98, 97] true) = 3 := by
          rw [cost_perm good_a hbl, ep3]
          rfl
        rw [ec3, ← eu3, ← ev3]
        have p1 := hk1112 _ _ hz11 (by simp)
        have p2 := hk1112 _ _ hz11' (by simp)
        have p3 := hk1112 _ _ hz3 (by simp)
        refine ⟨by show 6 ≤ sizeLine; omega, fun l1 hl10 => ⟨_, rfl, by show 1 ≤ sizeLine; omega, fun u1 hu1 => ⟨by show 0 ≤ sizeLine; omega, fun u2 hu2 => ⟨by show 2 ≤ sizeLine; omega, fun u3 hu3 => ⟨by show 6 ≤ sizeLine; omega, fun l2 hl20 => ?_⟩⟩⟩⟩⟩
        have kA : Kp [] H12 (upd H12 l1 (HO.lst [V.ref z1, tv ([[97, 98]], [98]).snd, V.int (1 + 1 - 2), V.ref z2, V.ref z3, V.int (3 + 0 - 2)])) := (kp_refl H12).up (.inl hl10)
        have pl1 : upd H12 l1 (HO.lst [V.ref z1, tv ([[97, 98]], [98]).snd, V.int (1 + 1 - 2), V.ref z2, V.ref z3, V.int (3 + 0 - 2)]) l1 = some (.lst [V.ref z1, tv [98], V.int (1 + 1 - 2), V.ref z2, V.ref z3, V.int (3 + 0 - 2)]) := upd_same
        generalize upd H12 l1 (HO.lst [V.ref z1, tv ([[97, 98]], [98]).snd, V.int (1 + 1 - 2), V.ref z2, V.ref z3, V.int (3 + 0 - 2)]) = HA at kA pl1 hu1 hu2 hu3 hl20
        have kB : Kp [] HA (upd HA u1 (.tup [V.str (Str.ofString "ab")])) := (kp_refl HA).up (.inl hu1)
        have pu1 : upd HA u1 (.tup [V.str (Str.ofString "ab")]) u1 = some (.tup ([[97, 98]].map tv)) := upd_same
        generalize upd HA u1 (.tup [V.str (Str.ofString "ab")]) = HB at kB pu1 hu2 hu3 hl20
        have kC : Kp [] HB (upd HB u2 (.tup [])) := (kp_refl HB).up (.inl hu2)
        have pu2 : upd HB u2 (.tup []) u2 = some (.tup []) := upd_same
        generalize upd HB u2 (.tup []) = HC at kC pu2 hu3 hl20
        have kD : Kp [] HC (upd HC u3 (.tup [V.str (Str.ofString "b"), V.str (Str.ofString "a")])) := (kp_refl HC).up (.inl hu3)
        have pu3 : upd HC u3 (.tup [V.str (Str.ofString "b"), V.str (Str.ofString "a")]) u3 = some (.tup ([[98], [97]].map tv)) := upd_same
        generalize upd HC u3 (.tup [V.str (Str.ofString "b"), V.str (Str.ofString "a")]) = HD at kD pu3 hl20
        have kE : Kp [] HD (upd HD l2 (HO.lst [V.ref u1, V.str (Str.ofString "b"), V.int 0, V.ref u2, V.ref u3, V.int 1])) := (kp_refl HD).up (.inl hl20)
        have pl2 : upd HD l2 (HO.lst [V.ref u1, V.str (Str.ofString "b"), V.int 0, V.ref u2, V.ref u3, V.int 1]) l2 = some (.lst [V.ref u1, tv [98], V.int 0, V.ref u2, V.ref u3, V.int 1]) := upd_same
        generalize upd HD l2 (HO.lst [V.ref u1, V.str (Str.ofString "b"), V.int 0, V.ref u2, V.ref u3, V.int 1]) = HE at kE pl2
        have kDE := kD.trans kE
        have kCE := kC.trans kDE
        have kBE := kB.trans kCE
        have kAE := kA.trans kBE
        refine ⟨.list [.tuple (dTx [[97, 98]]), .str (SX.S [98]), .int (1 + 1 - 2), .tuple (dTx []), .tuple (dTx [[98], [97]]), .int (3 + 0 - 2)], .list [.tuple (dTx [[97, 98]]), .str (SX.S [98]), .int 0, .tuple (dTx []), .tuple (dTx [[98], [97]]), .int 1],
          .lst (SqL.of (kBE _ _ pl1 (by simp))) (.cons (.tup (SqT.of (kAE _ _ p1 (by simp))) (texts_dp _)) (.cons (.str _) (.cons (.int _) (.cons (.tup (SqT.of (kAE _ _ p2 (by simp))) (texts_dp [])) (.cons (.tup (SqT.of (kAE _ _ p3 (by simp))) (texts_dp [[98], [97]])) (.cons (.int _) .nil)))))),
          .lst (SqL.of pl2) (.cons (.tup (SqT.of (kCE _ _ pu1 (by simp))) (texts_dp _)) (.cons (.str _) (.cons (.int _) (.cons (.tup (SqT.of (kDE _ _ pu2 (by simp))) (texts_dp [])) (.cons (.tup (SqT.of (kE _ _ pu3 (by simp))) (texts_dp _)) (.cons (.int _) .nil)))))), by decide +kernel, by decide +kernel, ?_⟩
        have ee : PyData.eqv (.list [.tuple (dTx [[97, 98]]), .str (SX.S [98]), .int (1 + 1 - 2), .tuple (dTx []), .tuple (dTx [[98], [97]]), .int (3 + 0 - 2)]) (.list [.tuple (dTx [[97, 98]]), .str (SX.S [98]), .int 0, .tuple (dTx []), .tuple (dTx [[98], [97]]), .int 1]) = true := by decide +kernel
        rw [ee]
        exact k _
end
end K75
-- part L9
set_option Elab.async false
set_option linter.all false
set_option maxRecDepth 100000
set_option maxHeartbeats 4000000
namespace K75
open PySem PySem.Spec PyProof.Rows L2 PySem.W PySem.Calls
/-- sorted(a tuple, key = f) -/
theorem sorted_tup_key {β : Type} {R : Value → β → Prop} {prog : Program} {w : World} {A : Around} {E : Value → Shared → Prop} {s : Shared} {vs : List Value} {bs : List β} {a f : Addr} {o : Obj} {n : Nat} {Q : Value → Shared → Prop} (k : β → PyData)
    (ho : s.heap.get? a = some o) (hc : o.cls = .type "tuple") (hd : o.data = .seq vs.toArray n) (e : EachIs R vs bs) (hal : AllAlike (bs.map k)) (hk : Sortable (bs.map k)) (hL : bs.length ≤ sizeLine)
    (hu : ∀ x, x ∈ bs → A.units + 2 + (k x).depth < cLine)
    (turn : ∀ (v : Value) (x : β), R v x → x ∈ bs → ∀ (h : Heap) (tk : Nat), (∀ b o, s.heap.get? b = some o → h.get? b = some o) →
      wpAny (model prog w) A.in1.in1 (call (.ref f) [v]) (KeyPure (k x) { s with heap := h, toks := tk }) (fun _ _ => False) { s with heap := h, toks := tk })
    (h : ∀ out c h' tk (g0 : Heap), (∀ b o, s.heap.get? b = some o → g0.get? b = some o) → (∀ b o, g0.get? b = some o → h'.get? b = some o) → h'.get? g0.objs.size = some (seqObj "list" (List.toArray out) c) → out.length = bs.length → EachIs R out (bs.mergeSort (dataLe false k)) →
      Q (.ref g0.objs.size) { s with heap := h', toks := tk }) :
    wpAny (model prog w) A (call (.builtin "sorted") [.ref a] [(Str.ofString "key", .ref f)]) Q E s := by
  have hl := e.length
  refine call_function_entry_kw kind_sorted plain_sorted entry_sorted ?ha1 ?_
  case ha1 => exact ksk_s1 _ _
  unfold Builtin.«sorted»
  refine wpAny_bind (m := checkCount "sorted" 1 1 _) (wpAny_pure ?_)
  refine wpAny_bind (wpAny_collect_seq a (T := "tuple") (.inr rfl) ho hc hd (fun h' hk' => ?_) (by rw [List.size_toArray]; omega))
  have eits : vs.toArray.toList = vs := by simp
  refine wpAny_bind (wpAny_newList ?_ (by rw [eits]; omega))
  rw [eits]
  have hoL : (h'.push (seqObj "list" vs.toArray 0)).get? h'.objs.size = some (seqObj "list" vs.toArray 0) := Heap.get?_push_size _ rfl
  have up : ∀ {g : Heap}, KeepsBut h'.objs.size (h'.push (seqObj "list" vs.toArray 0)) g → ∀ b o, s.heap.get? b = some o → g.get? b = some o := fun {g} kp b o q =>
    kp b o (Nat.ne_of_lt (Heap.lt_size (hk' b o q))) (Heap.get?_push_of_some _ (hk' b o q))
  show wpAny _ _ _ _ _ { s with heap := h'.push (seqObj "list" vs.toArray 0) }
  refine wpAny_bind (wpAny_holding (wpAny_call_entry_kw slot_list_sort ⟨_, hoL, rfl⟩ entry_list_sort ?body ?ha2))
  case ha2 => exact ksk_l1 _ _
  case body =>
    show wpAny _ _ (ksk_tree h'.objs.size (.ref f) false) _ _ _
    refine keyH_tree (kz := bs.map k) (s := { s with heap := h'.push (seqObj "list" vs.toArray 0) }) hoL (by rw [List.length_map]; exact e.length.symm) (by rw [e.length]; exact hL) hal hk (bound_map (A := A.in1.in1) hu)
      (keyH_turns (s := { s with heap := h'.push (seqObj "list" vs.toArray 0) }) e fun v x hR hx g tk kp => turn v x hR hx g tk (up kp)) fun g tk out c kp hD ko => ?_
    refine ⟨_, rfl, ?_⟩
    exact wpAny_pure ⟨_, rfl, h out c g tk h' hk' (fun b o q => kp b o (Nat.ne_of_lt (Heap.lt_size q)) (Heap.get?_push_of_some _ q)) hD ((ko.length (by rw [List.length_map]; exact e.length.symm)).trans e.length) (keyedOut_each k ko e)⟩
end K75
-- part L10
set_option Elab.async false
set_option linter.all false
set_option maxRecDepth 100000
set_option maxHeartbeats 4000000
namespace K75
open PySem PySem.Spec PyProof.Rows L2 PySem.W PySem.Calls
/-! the order by -len -/
def negLen (t : Tx0) : PyData := .int (-((t.length : Nat) : Int))
theorem le_negLen : dataLe false negLen = fun a b : Tx0 => decide (b.length ≤ a.length) := by
  have := dataLe_int (fun t : Tx0 => -((t.length : Nat) : Int))
  show dataLe false (fun t : Tx0 => .int (-((t.length : Nat) : Int))) = _
  rw [this]
  funext a b
  exact decide_eq_decide.mpr ⟨fun h => by omega, fun h => by omega⟩
theorem sort_negLen (ts : List Tx0) : ts.mergeSort (dataLe false negLen) = byLen ts := by
  rw [le_negLen]
  rfl
theorem alike_negLen (ts : List Tx0) : AllAlike (ts.map negLen) := fun d hd d' hd' => by
  obtain ⟨t, _, rfl⟩ := List.mem_map.mp hd
  obtain ⟨u, _, rfl⟩ := List.mem_map.mp hd'
  rfl
theorem sortable_negLen (ts : List Tx0) : Sortable (ts.map negLen) := .inr fun d hd => by
  obtain ⟨t, _, rfl⟩ := List.mem_map.mp hd
  refine ⟨fun h => ?_, fun xs h => ?_⟩
  · unfold negLen at h
    cases h
  · unfold negLen at h
    cases h
theorem depth_negLen (t : Tx0) : (negLen t).depth = 0 := by simp [negLen, PyData.depth]
def IsTx (v : Value) (t : Tx0) : Prop := ∃ k, v = .str (SX.S t) k
theorem each_tx {ts : List Tx0} : ∀ {vs : List Value}, Vals (ts.map tv) vs → EachIs IsTx vs ts := by
  induction ts with
  | nil =>
    intro vs h
    cases h
    exact .nil
  | cons t ts ih =>
    intro vs h
    rw [List.map_cons] at h
    cases h with
    | cons a b => exact .cons a (ih b)
theorem vals_tx {ts : List Tx0} {vs : List Value} (h : EachIs IsTx vs ts) : Vals (ts.map tv) vs := by
  induction h with
  | nil => exact .nil
  | cons a _ ih => exact .cons a ih
end K75
-- part L11
set_option Elab.async false
set_option linter.all false
set_option maxRecDepth 100000
set_option maxHeartbeats 4000000
namespace K75
open PySem PySem.Spec PyProof.Rows L2
/-- a lambda with parameters, called: its body by the rules in the context of a def -/
theorem run_lam {CX : CXT} {P : Program} {w : World} {K : PySem.W.Frag} {mg : Str → Option Value} {base : Heap} {k : Nat} {f c' : Addr} {name qual : Str} {params : Arguments} {body : Expr} {scope : Scope} {pm ctv : Value} {t : TE}
    {N ps : List Str} (S : FnScope N ps scope) {A : Around} {outer : List Env} {s : Shared} {H : Hp} {args : Args} {us : List Value} {vs : List V} {Q : VK} {E : XK}
    (hf : s.heap.get? f = some (PySem.W.kla_obj name qual params body scope [] pm c' ctv)) (hc : s.heap.CodeRec (.ref c') qual) (hr : Room (k + 1) A) (e0 : Env0 P w K mg base A outer s H)
    (hb : bindArgs (PySem.W.kla_fn name qual params body scope [] pm (.ref c') ctv) args = pure (ps.zip us)) (r : Vals vs us) (hl : vs.length = ps.length)
    (hbody : Room k (A.deeper (envOfC qual scope s.heap.objs.size f (.ref c'))) → PE (cxOf CX P w K mg base N qual scope f (.ref c') A outer s H E) body t ∧ t (L2.start N vs) H Q) :
    codeAny (model P w) A (.call (.ref f) args) (CR CX outer P w H s Q E) s := by
  have lim : s.heap.NoLimit := e0.mod.nolimit.keeps fun b o e => (e0.bs b o e).1
  have hkind : ∀ y ∈ ps.zip us, scope.names.lookup y.1 = some .local ∨ (scope.names.lookup y.1 = some .cell ∧ ((cellsFrom (s.heap.objs.size + 1) scope.names []).lookup y.1).isSome = true) := fun ⟨n, v⟩ hy => by
    rcases S.par n (List.of_mem_zip hy).1 with q | q
    · exact .inl q
    · exact .inr ⟨q, PySem.W.cellsFrom_some _ _ _ (.inl q)⟩
  refine PySem.W.kla_callFunE hr.depth hf rfl S.co S.gen rfl hc ?_
  rw [hb]
  refine wpAny_pure (wpAny_newFunctionEnv_cells S.kind hkind fun env he s1 x => ?_)
  subst he
  refine ⟨lim.keeps x.toInCall.keep, PySem.W.kla_codeExpr ?_⟩
  obtain ⟨ht, hq⟩ := hbody (hr.deeper _)
  have I : Inv (cxOf CX P w K mg base N qual scope f (.ref c') A outer s H E) [] (L2.start N vs) H s1 := inv_start S hr.hd e0 hl r x
  refine wpAny_mono (ht.run [] s1 (L2.start N vs) H _ I hq) (fun u s' hs => ?_) fun e s' hs => hs
  obtain ⟨v, H', J, rv, q⟩ := hs
  exact ⟨v, H', J.os, J.bare, J.base, J.hok, rv, q⟩
end K75
-- part L12
set_option Elab.async false
set_option linter.all false
set_option maxRecDepth 100000
set_option maxHeartbeats 4000000
namespace K75
open PySem PySem.Spec PyProof.Rows L2
/-- -len(piece): nothing but the count of made values changes -/
theorem body_len {X : Cx} {pins : List (Addr × Obj)} {σ : L2.St} {H : Hp} {s : Shared} {t : Tx0} {x : Str} {p1 p2 p3 p4 : Pos} {E : Value → Shared → Prop} {Q : Value → Shared → Prop} (I : Inv X pins σ H s) (hN : X.N[0]? = some x) (hv : X.env.scope.names.lookup x = some .local)
    (hs : σ[0]? = some (some (tv t))) (hg : Gl X "len") (hm : X.mg "len" = none) (hl : t.length ≤ sizeLine) (hd : (x == ("__debug__" : Str)) = false) (h : ∀ tk k, Q (.int (-((t.length : Nat) : Int)) k) { s with toks := tk }) :
    wpAny (model X.prog X.w) X.A (eval (.UnaryOp .USub (.Call (.Name "len" p1) [.Name x p2] [] p3) p4) X.env) Q E s := by
  have h1 := line63
  have h2 : sizeLine = 16777216 := sizeLine_eq
  refine UnaryOp_ ?_
  refine wpAny_Call_Name_kw (ld_blt I hg hm (u := .builtin "len") rfl ?_)
  refine PyProof.Rows.callWith_builtin1 (rest := []) (e := .Name x p2) ?_ rfl rfl
  obtain ⟨m, hn, hlk⟩ := I.loc
  obtain ⟨u, r, l⟩ := hlk 0 x (tv t) hN hs (.inl hv)
  obtain ⟨k, rfl⟩ := r
  rcases l with ⟨hk, hm2⟩ | ⟨hk, c, hc, hcell⟩
  · refine PyProof.Rows.args_cons (wpAny_Name (wpAny_loadName_local I.ok.kind hk hn hm2 (PyProof.Rows.args_nil ?_)) hd)
    refine len_str (by rw [SX.S_len]; omega) ?_
    rw [SX.S_len]
    exact neg_int (h _ _)
  · have hk : X.env.scope.names.lookup x = some NameKind.cell ∨ X.env.scope.names.lookup x = some NameKind.free := hk
    rw [hv] at hk
    rcases hk with hk | hk <;> cases hk
end K75
-- part L13
set_option Elab.async false
set_option linter.all false
set_option maxRecDepth 100000
set_option maxHeartbeats 4000000
namespace K75
open PySem PySem.Spec PyProof.Rows L2
theorem turn_len {P : Program} {w : World} {K : PySem.W.Frag} {mg : Str → Option Value} {base : Heap} {A : Around} {outer : List Env} {s : Shared} {H : Hp} {f c' : Addr} {name qual : Str} {params : Arguments} {scope : Scope} {pm ctv : Value} {x : Str} {N : List Str} {k : Nat} {t : Tx0} {tk : Tok} {p1 p2 p3 p4 : Pos}
    (S : FnScope N [x] scope) (hN : N[0]? = some x) (hv : scope.names.lookup x = some .local) (hlen : scope.names.lookup ("len" : Str) = some .globalImplicit) (hm : mg "len" = none) (hd : (x == ("__debug__" : Str)) = false)
    (hf : s.heap.get? f = some (PySem.W.kla_obj name qual params (.UnaryOp .USub (.Call (.Name "len" p1) [.Name x p2] [] p3) p4) scope [] pm c' ctv)) (hc : s.heap.CodeRec (.ref c') qual) (hr : Room (k + 1) A) (e0 : Env0 P w K mg base A outer s H)
    (hb : ∀ v, bindArgs (PySem.W.kla_fn name qual params (.UnaryOp .USub (.Call (.Name "len" p1) [.Name x p2] [] p3) p4) scope [] pm (.ref c') ctv) ⟨[v], []⟩ = pure [(x, v)]) (hl : t.length ≤ sizeLine) :
    wpAny (model P w) A (call (.ref f) [.str (SX.S t) tk]) (PySem.W.KeyPure (negLen t) s) (fun _ _ => False) s := by
  have lim : s.heap.NoLimit := e0.mod.nolimit.keeps fun b o e => (e0.bs b o e).1
  refine wpAny_call ?_
  refine PySem.W.kla_callFunE hr.depth hf rfl S.co S.gen rfl hc ?_
  rw [hb]
  have hkind : ∀ y ∈ [(x, Value.str (SX.S t) tk)], scope.names.lookup y.1 = some .local ∨ (scope.names.lookup y.1 = some .cell ∧ ((cellsFrom (s.heap.objs.size + 1) scope.names []).lookup y.1).isSome = true) := fun y hy => by
    rw [List.mem_singleton.mp hy]
    exact .inl hv
  refine wpAny_pure (wpAny_newFunctionEnv_cells S.kind hkind fun env he s1 xx => ?_)
  subst he
  refine ⟨lim.keeps xx.toInCall.keep, PySem.W.kla_codeExpr ?_⟩
  have I : Inv (cxOf CX0 P w K mg base N qual scope f (.ref c') A outer s H E0) [] (L2.start N [tv t]) H s1 := inv_start (us := [.str (SX.S t) tk]) (vs := [tv t]) S hr.hd e0 rfl (.cons ⟨tk, rfl⟩ .nil) xx
  refine body_len I hN hv (by cases N with | nil => cases hN | cons a l => rfl) hlen hm hl hd fun tk2 k2 => ?_
  obtain ⟨h1, tk1, rfl, hk⟩ := xx.done
  exact ⟨h1, tk2, rfl, hk, .int ..⟩
end K75
-- part L14
set_option Elab.async false
set_option linter.all false
set_option maxRecDepth 100000
set_option maxHeartbeats 4000000
namespace K75
open PySem PySem.Spec PyProof.Rows L2
theorem sorted_lam {X : Cx} {pins : List (Addr × Obj)} {σ : L2.St} {H : Hp} {s : Shared} {a f c' : Addr} {ts : List Tx0} {name qual : Str} {params : Arguments} {scope : Scope} {pm ctv : Value} {x : Str} {N : List Str} {k : Nat} {Q : VK} {p1 p2 p3 p4 : Pos}
    (I : Inv X pins σ H s) (hs : SqT X.K H a (ts.map tv)) (hz : ∀ t ∈ ts, t.length ≤ sizeLine) (S : FnScope N [x] scope) (hN : N[0]? = some x) (hv : scope.names.lookup x = some .local) (hlen : scope.names.lookup ("len" : Str) = some .globalImplicit) (hm : X.mg "len" = none) (hd : (x == ("__debug__" : Str)) = false)
    (hf : s.heap.get? f = some (PySem.W.kla_obj name qual params (.UnaryOp .USub (.Call (.Name "len" p1) [.Name x p2] [] p3) p4) scope [] pm c' ctv)) (hc : s.heap.CodeRec (.ref c') qual) (hr : Room (k + 1) X.A.in1.in1) (hu : X.A.units + 2 < cLine)
    (hb : ∀ v, bindArgs (PySem.W.kla_fn name qual params (.UnaryOp .USub (.Call (.Name "len" p1) [.Name x p2] [] p3) p4) scope [] pm (.ref c') ctv) ⟨[v], []⟩ = pure [(x, v)])
    (h : ∀ p, H p = none → Q (.ref p) (upd H p (.lst ((byLen ts).map tv)))) :
    wpAny (model X.prog X.w) X.A (call (.builtin "sorted") [.ref a] [(Str.ofString "key", .ref f)]) (EP X pins σ Q) X.xe s := by
  obtain ⟨its, rv, ⟨o, ho, hcl, n, hdt⟩, hzz⟩ := I.tuple hs
  rw [List.length_map] at hzz
  refine sorted_tup_key (R := IsTx) negLen ho hcl hdt (each_tx rv) (alike_negLen ts) (sortable_negLen ts) hzz (fun y _ => by rw [depth_negLen]; exact hu) (fun v y ⟨tk0, e⟩ hy g tk hk => ?_) fun out c g tk g0 hk hk2 hat hl ho2 => ?_
  · subst e
    have I2 : Inv X pins σ H { s with heap := g, toks := tk } := I.kept (t' := tk) hk
    obtain ⟨cc, oc, vs, tq, e1, e2, e3, e4⟩ := hc
    exact turn_len (s := { s with heap := g, toks := tk }) S hN hv hlen hm hd (hk _ _ hf) ⟨cc, oc, vs, tq, e1, hk _ _ e2, e3, e4⟩ hr I2.env0.in1.in1 hb (hz y hy)
  · rw [sort_negLen] at ho2
    have hlt : ((byLen ts).map tv).length ≤ sizeLine := by
      rw [List.length_map, show (byLen ts).length = ts.length from (List.mergeSort_perm ts _).length_eq]
      exact hzz
    have I1 : Inv X pins σ H { s with heap := g0 } := I.kept (t' := s.toks) hk
    exact ⟨.ref g0.objs.size, upd H g0.objs.size (.lst ((byLen ts).map tv)), I1.laid (t' := tk) hk2 (Nat.le_refl _) (show ObjOk X.prog X.w _ _ _ (.lst ((byLen ts).map tv)) from ⟨hlt, out, c, vals_tx ho2, hat⟩), rfl, h _ (I1.hok.fresh (Nat.le_refl _))⟩
end K75
-- part L15
set_option Elab.async false
set_option linter.all false
set_option maxRecDepth 100000
set_option maxHeartbeats 4000000
namespace K75
open PySem PySem.Spec PyProof.Rows L2
/-- sorted(e, key = lambda x: -len(x)), e a tuple of texts -/
def tSortLam (K : PySem.W.Frag) (PT : Addr) (te : TE) : TE := fun σ H Q => te σ H fun v H1 => ∃ (a : Addr) (ts : List Tx0), v = .ref a ∧ SqT K H1 a (ts.map tv) ∧ (∀ t ∈ ts, t.length ≤ sizeLine) ∧ H1 PT = some (.tbl #[]) ∧
  ∀ (H2 : Hp) (p : Addr), LamX.ExtN H1 H2 → H2 p = none → Q (.ref p) (upd H2 p (.lst ((byLen ts).map tv)))
end K75
-- part L16
set_option Elab.async false
set_option linter.all false
set_option maxRecDepth 100000
set_option maxHeartbeats 4000000
namespace K75
open PySem PySem.Spec PyProof.Rows L2
theorem pe_sortedLam {X : Cx} {c PT : Addr} {params : Arguments} {scope : Scope} {x : Str} {N : List Str} {k : Nat} {e : Expr} {te : TE} {p p1 p2 p3 p4 lpos kpos pos : Pos}
    (TB : LamX.TabB X.base X.mg c PT) (hcode : X.env.code = .ref c) (hdef : defaultsOf params X.env = ([], [])) (hfree : ∀ y ∈ scope.names, y.2 ≠ .free) (hcl : cloFrom X.env.cells scope.names [] = []) (hg : Gl X "sorted") (hms : X.mg "sorted" = none)
    (S : FnScope N [x] scope) (hN : N[0]? = some x) (hv : scope.names.lookup x = some .local) (hlen : scope.names.lookup ("len" : Str) = some .globalImplicit) (hm : X.mg "len" = none) (hd : (x == ("__debug__" : Str)) = false) (hr : Room (k + 1) X.A.in1.in1) (hu : X.A.units + 2 < cLine)
    (hb : ∀ (pm ctv : Value) (c' : Addr) (v : Value), bindArgs (PySem.W.kla_fn "<lambda>" (X.env.qual ++ "<lambda>") params (.UnaryOp .USub (.Call (.Name "len" p1) [.Name x p2] [] p3) p4) scope [] pm (.ref c') ctv) ⟨[v], []⟩ = pure [(x, v)])
    (ha : PE X e te)
    (he0 : starEach [e] X.env = (false, eval e X.env) :: starEach [] X.env := by rfl)
    (he : backTo pos (starEach [e] X.env) = (false, eval e X.env) :: backTo pos (starEach [] X.env) := by rfl) (hpl : (backTo pos (starEach [e] X.env)).any (·.1) = false := by rfl) :
    PE X (.Call (.Name "sorted" p) [e] [⟨some "key", .Lambda params (.UnaryOp .USub (.Call (.Name "len" p1) [.Name x p2] [] p3) p4) scope lpos, kpos⟩] pos) (tSortLam X.K PT te) := by
  refine ⟨fun pins s σ H Q I h => ?_⟩
  refine wpAny_Call_Name_kw (ld_blt I hg hms (u := .builtin "sorted") rfl ?_)
  refine PyProof.Rows.callWith_kw (PyProof.Rows.args_cons (thn (ha.run pins s σ H _ I h) fun u s1 ⟨v, H1, I1, r1, a, ts, e1, hs, hz, hPT, q⟩ => PyProof.Rows.args_nil ?_) he0) he hpl rfl rfl
  subst e1
  cases r1
  show wpAny _ _ (evalAll ((do let v ← eval (.Lambda params (.UnaryOp .USub (.Call (.Name "len" p1) [.Name x p2] [] p3) p4) scope lpos) X.env; standAt pos; pure v) :: [])) _ _ s1
  refine wpAny_evalAll_cons (wpAny_bind (LamX.lam_make2 (T := [(PT, X.env.qual ++ "<lambda>")]) I1 TB hcode (by simp) (by simp) (fun y hy => by rw [List.mem_singleton.mp hy]; exact LamX.TabS.nil hPT) hdef (fun y hy ef => absurd ef (hfree y hy)) fun f c' pm ctv H2 s2 I2 ext tabs hf hfn hfr hco => wpAny_bind (wpAny_standAt (wpAny_pure (wpAny_evalAll_nil ?_)))))
  rw [hcl] at hf
  obtain ⟨⟨oc, vs, tq, hoc, hdc, hvc⟩, _, _⟩ := I2.hok c' _ hco
  have hs2 : SqT X.K H2 a (ts.map tv) := hs.elim (fun h => .inl (h.elim (fun h => .inl (ext _ _ h (fun _ z => by cases z))) fun ⟨o, h⟩ => .inr ⟨o, ext _ _ h (fun _ z => by cases z)⟩)) fun h => .inr h
  exact sorted_lam I2 hs2 hz S hN hv hlen hm hd hf ⟨c', oc, vs, tq, rfl, hoc, hdc, hvc⟩ hr hu (hb pm ctv c') fun p hp => q H2 p ext hp
end K75
-- part L17
set_option Elab.async false
set_option linter.all false
set_option maxRecDepth 100000
set_option maxHeartbeats 4000000
namespace K75
open PySem PySem.Spec PyProof.Rows L2
/-! a classmethod whose code object is known -/
def CmtC (K : PySem.W.Frag) (C : Addr) (m qual : Str) (st : Stmt) (c : Addr) : Prop :=
  ∃ mc p g fd, ClX.CRead K C mc ∧ ClX.CMet K C mc m p g ∧ FunD K m qual (defArgs st) (defBody st) (defScope st) [] [] g fd ∧ fd.code = .ref c
section
variable {P : Program} {w : World} {K : PySem.W.Frag} {mg : Str → Option Value} {base : Heap} {m qual : Str} {C c : Addr} {st : Stmt} {N ps : List Str} {k : Nat} {sp : Sp}
abbrev BodyC (P : Program) (w : World) (K : PySem.W.Frag) (mg : Str → Option Value) (base : Heap) (qual : Str) (st : Stmt) (N : List Str) (k : Nat) (sp : Sp) (c : Addr) : Prop :=
  ∀ (A : Around) (outer : List Env) (f : Addr) (s : Shared) (H : Hp) (vs : List V) (Q : VK) (E : XK), Room k (A.deeper (envOfC qual (defScope st) s.heap.objs.size f (.ref c))) → sp vs H Q E →
      ∃ t, PSs (cxOf CX0 P w K mg base N qual (defScope st) f (.ref c) A outer s H E).nox (defBody st) t ∧ t { nx := fun _ H' => Q .non H', rt := Q } (start N vs) H
theorem cmt_ofC (F : CmtC K C m qual st c) (S : FnScope N ps (defScope st)) (hb : BindAll m qual st ps) (len : ∀ vs H Q E, sp vs H Q E → vs.length = ps.length) (hbody : BodyC P w K mg base qual st N k sp c) : Cmt P w K mg base (k + 1) C m sp := by
  obtain ⟨mc, p, g, fd, h1, h2, F, hc⟩ := F
  refine ⟨mc, p, g, h1, h2, ?_⟩
  have bd := F.bindsN hb
  obtain ⟨oc, od, dV, kV, doc, pm, an, cdv, ct, osl, rfl, lk, hcd, _, _⟩ := F.ex
  have ec : cdv = .ref c := hc
  subst ec
  refine (FnOk.raw (ps := ps) (ds := []) (dvs := []) (fn_of lk hcd S len fun A outer s H vs Q E hr hsp => ?_) bd .nil).imp fun vs H Q E h => ?_
  · obtain ⟨t, ht, q⟩ := hbody A outer g s H vs Q E hr hsp
    exact ⟨t, ht.nox, q⟩
  · rw [List.append_nil]
    exact h
end
theorem good_nil (bk : Bk) (n : Nat) : GoodTb bk n [] := ⟨List.nodup_nil, Nat.zero_le _, (fun _ h => by cases h), (fun _ h => by cases h), (fun _ h => by cases h), (fun _ h => by cases h)⟩
section
variable {P : Program} {w : World} {K : PySem.W.Frag} {mg : Str → Option Value} {base : Heap} {CB CC CF PT : Addr}
theorem c_longest (T : Ty K mg CB CC CF) {c : Addr} (F : CmtC K CC "longest_first" "Cutter.longest_first" s_p_Cutter_longest_first c) (TB : LamX.TabB base mg c PT) : Cmt P w K mg base 9 CC "longest_first" (sp_longest CB CC PT) := by
  refine cmt_ofC F sc_p_Cutter_longest_first (fun _ _ _ _ _ _ us hl => match us, hl with | [_, _], _ => rfl) (fun vs H Q E h => ?_) (fun A outer f s H vs Q E hr h => ?_)
  · obtain ⟨b, bk, rfl, _⟩ := h
    rfl
  · obtain ⟨b, bk, rfl, ⟨dx, d, p0, al, ac, lg, de, b0⟩, hPT, k⟩ := h
    have h3 : sizeLine = 16777216 := sizeLine_eq
    obtain ⟨f1, fd, ps, ds, M, F1, hm, hbi, hv⟩ := mk_pos (P := P) (w := w) (base := base) T
    have hr2 : Room 6 ((A.deeper (envOfC "Cutter.longest_first" (defScope s_p_Cutter_longest_first) s.heap.objs.size f (.ref c))).in1.in1) := Room.in1 (Room.in1 hr)
    have hu := hr.units
    refine ⟨_, (pss_cons (ps_expr (C8.pe_c (c_p_require_book T) hr (by decide) (by rfl) (pa_cons (pv 1) pa_nil)))
  (pss_one (ps_ret (pe_makeL (i := 0) M F1 (hr.mono (by decide)) rfl (.inl rfl) hbi hv pass0 (pa_cons (pv 1) (pa_cons (pe_callTy call_tuple_of (by rfl) T.n_tuple (by decide +kernel) (pa_cons (pe_sortedLam (x := "piece") (N := ["piece"]) TB rfl rfl (by decide) rfl (by rfl) T.n_sorted ⟨rfl, rfl, rfl, by decide +kernel, rfl, by decide +kernel, by decide +kernel⟩ rfl rfl rfl T.n_len (by decide) hr2 (Nat.lt_of_le_of_lt (Nat.add_le_add_left (by decide) _) hu) (fun _ _ _ _ => rfl) (pe_fldK (K := K) rfl (pv 1))) pa_nil)) pa_nil)))))), ?_⟩
    refine ⟨_, rfl, b, dx, _, rfl, b0.ha, ?_⟩
    refine ⟨rfl, _, rfl, _, rfl, _, _, _, _, _, rfl, b0.ha, T.cl_Book, T.no_Book_own_pieces, rfl, p0, pcs bk, rfl, SqT.of b0.hp, fun t ht => ?_, hPT, fun H2 p ext hp => ⟨p, _, rfl, .inl ⟨SqL.of upd_same, fun q hq => ?_⟩⟩⟩
    · have := (pcs_len b0.g ht).2
      omega
    have hk1 : ∀ bb o, H bb = some o → (∀ ps, o ≠ .tbl ps) → (upd H2 p (HO.lst ((byLen (pcs bk)).map tv))) bb = some o := fun bb o e n => by
      have e2 := ext bb o e n
      rw [upd_ne (ne_of_none e2 hp)]
      exact e2
    have b1 : BookAt CB (upd H2 p (HO.lst ((byLen (pcs bk)).map tv))) b bk dx d p0 al ac lg de :=
      ⟨hk1 _ _ b0.ha (fun _ z => by cases z), hk1 _ _ b0.hd (fun _ z => by cases z), hk1 _ _ b0.hp (fun _ z => by cases z), hk1 _ _ b0.hl (fun _ z => by cases z), b0.hac, b0.hal, b0.hlg, b0.hlg5, b0.hlg1, b0.hlgm, b0.g, b0.so⟩
    generalize upd H2 p (HO.lst ((byLen (pcs bk)).map tv)) = H3 at hq b1 ⊢
    have hk2 : Kp [] H3 (upd H3 q (HO.tup ((byLen (pcs bk)).map tv))) := (kp_refl H3).up (.inl hq)
    have hq4 : upd H3 q (HO.tup ((byLen (pcs bk)).map tv)) q = some (HO.tup ((byLen (pcs bk)).map tv)) := upd_same
    have b2 := b1.kp0 hk2
    generalize upd H3 q (HO.tup ((byLen (pcs bk)).map tv)) = H4 at hq4 b2 ⊢
    intro x dxc hx0 hdx0 ne
    have hk3 : Kp [] H4 (upd (upd H4 dxc (.own x)) x (.ins CC dxc [])) := ((kp_refl H4).up (.inl hdx0)).up (.inl hx0)
    have hq5 := hk3 _ _ hq4 (by simp)
    have b3 := b2.kp0 hk3
    have h5 := b0.hlg5
    refine ⟨x, dxc, b, q, .non, .non, .non, bk, ⟨byLen (pcs bk), lg, [], []⟩, rfl, upd_same, ⟨dx, d, p0, al, ac, lg, de, b3⟩, hq5, ⟨List.mergeSort_perm _ _, b0.hlg1, by show lg ≤ 2000; omega, good_nil _ _, good_nil _ _⟩, .inr ⟨rfl, b0.hlg, b0.hlgm⟩, .inr ⟨rfl, rfl⟩, .inr ⟨rfl, rfl⟩, fun H6 hc6 hk6 => ⟨rfl, k x lg H6 b0.hlg b0.hlgm hc6⟩⟩
end
end K75
-- part E1
set_option Elab.async false
set_option linter.all false
set_option maxRecDepth 100000
set_option maxHeartbeats 4000000
namespace K75
open PySem PySem.Spec PyProof.Rows L2
/-! the end of a law whose promise is for callers under whom no repr is under way -/
abbrev noTab : Obj := { cls := .none, data := .fields #[] }
abbrev scrO (vs : List Value) : Obj := { cls := .type "list", data := .seq vs.toArray }
/-- what is tracked when the law is called: the tables, and the script where it is not written -/
def hp0 (K : PySem.W.Frag) (ts : List Addr) (a : Addr) (vs : List Value) (ns : List Int) : Hp := fun b =>
  if b ∈ ts then some (.tbl #[]) else if b = a ∧ K.lookup a = none then some (.frz (scrO vs) (.lst (ns.map V.int))) else none
section
variable {P : Program} {w : World} {K : PySem.W.Frag} {ts : List Addr} {a b : Addr} {vs : List Value} {ns : List Int} {s : Shared} {u : HO} {o : Obj}
theorem hp0_tab (h : b ∈ ts) : hp0 K ts a vs ns b = some (.tbl #[]) := if_pos h
theorem hp0_scr (h : a ∉ ts) (n : K.lookup a = none) : hp0 K ts a vs ns a = some (.frz (scrO vs) (.lst (ns.map V.int))) := (if_neg h).trans (if_pos ⟨rfl, n⟩)
theorem hp0_is (h : hp0 K ts a vs ns b = some u) : (b ∈ ts ∧ u = .tbl #[]) ∨ (b = a ∧ K.lookup a = none ∧ u = .frz (scrO vs) (.lst (ns.map V.int))) := by
  unfold hp0 at h
  split at h
  · rename_i m
    exact .inl ⟨m, (Option.some.inj h).symm⟩
  · split at h
    · rename_i m
      exact .inr ⟨m.1, m.2, (Option.some.inj h).symm⟩
    · cases h
/-- an object that is neither a table nor a sequence is not tracked -/
theorem hp0_not (hT : ∀ t ∈ ts, s.heap.get? t = some noTab) (ha : s.heap.get? a = some (scrO vs)) (e : s.heap.get? b = some o) (h1 : o ≠ noTab) (h2 : o ≠ scrO vs) : hp0 K ts a vs ns b = none := by
  cases q : hp0 K ts a vs ns b with
  | none => rfl
  | some u =>
    rcases hp0_is q with ⟨m, _⟩ | ⟨m, _, _⟩
    · exact absurd (Option.some.inj (e.symm.trans (hT b m))) h1
    · rw [m] at e
      exact absurd (Option.some.inj (e.symm.trans ha)) h2
theorem hp0_ok (hT : ∀ t ∈ ts, s.heap.get? t = some noTab) (ha : s.heap.get? a = some (scrO vs)) (hi : IntsAre vs ns) (hl : ns.length ≤ sizeLine) : HOk P w (hp0 K ts a vs ns) s.heap := by
  intro b u q
  rcases hp0_is q with ⟨m, rfl⟩ | ⟨rfl, _, rfl⟩
  · exact hT b m
  · exact ⟨ha, by rw [List.length_map]; exact hl, vs, _, vals_ints hi, ha⟩
end
theorem law_end {P : Program} {w : World} {K : PySem.W.Frag} {mg mb : Str → Option Value} {k : Nat} {fa a : Addr} {cs : List (Addr × Addr)} {sp : Sp} {s : Shared} {vs : List Value} {ns : List Int}
    (KX : K.In s.heap) (gG : s.heap.Ns mainGlobals mg) (gB : s.heap.Ns builtinsNs mb) (bB : ∀ x : Str, x ≠ "__name__" → mb x = bootBuiltins x) (lim : s.heap.NoLimit) (noG : s.gens = #[])
    (hT : ∀ p ∈ cs, s.heap.get? p.2 = some noTab) (nT : ∀ p ∈ cs, K.lookup p.2 = none) (hC : ∀ p ∈ cs, PySem.W.CodeHd s.heap p.1 p.2)
    (bM : ∃ (bm : Addr) (ob : Obj), mg "__builtins__" = some (.ref bm) ∧ bm ≠ builtinsNs ∧ s.heap.get? bm = some ob ∧ ob.cls = .type "module" ∧ ob.dict = some builtinsNs ∧ ob.data = .plain)
    (ha : s.heap.get? a = some (scrO vs)) (hi : IntsAre vs ns) (hl : ns.length ≤ sizeLine) (hr : Room k callerA)
    (F : ∀ base : Heap, K.In base → base.Ns mainGlobals mg → (∀ p ∈ cs, LamX.TabB base mg p.1 p.2) → FnGR P w K mg base k fa sp)
    (hsp : ∀ H : Hp, (∀ p ∈ cs, H p.2 = some (.tbl #[])) → SqL K H a (ns.map V.int) → sp [.ref a] H (fun v _ => v = .bl true) E0) :
    codeAny (model P w) callerA (.call (.ref fa) ⟨[.ref a], []⟩) (fun r s' => r = .ok (.ret (.bool true)) ∧ OldK s.heap s'.heap ∧ s'.os = s.os ∧ AllBare s'.gens) s := by
  obtain ⟨ts, ets⟩ : ∃ ts, ts = cs.map (·.2) := ⟨_, rfl⟩
  have mT : ∀ p ∈ cs, p.2 ∈ ts := fun p hp => by rw [ets]; exact List.mem_map_of_mem hp
  have isT : ∀ t ∈ ts, s.heap.get? t = some noTab := fun t ht => by
    rw [ets] at ht
    obtain ⟨p, hp, rfl⟩ := List.mem_map.mp ht
    exact hT p hp
  have aT : a ∉ ts := fun z => by
    have q := Option.some.inj ((isT a z).symm.trans ha)
    cases q
  obtain ⟨H, eH⟩ : ∃ H, H = hp0 K ts a vs ns := ⟨_, rfl⟩
  have off : ∀ {b : Addr} {o : Obj}, s.heap.get? b = some o → o ≠ noTab → o ≠ scrO vs → (hidT s.heap H).get? b = some o := fun e h1 h2 => hidT_get e (by rw [eH]; exact hp0_not isT ha e h1 h2)
  have offD : ∀ {b : Addr} {o : Obj} {es : Array DictEntry} {n : Nat}, s.heap.get? b = some o → o.data = .dict es n → (hidT s.heap H).get? b = some o := fun {b o es n} e d =>
    off e (fun z => by rw [z] at d; cases d) (fun z => by rw [z] at d; cases d)
  have ns_ : ∀ {b : Addr} {m : Str → Option Value}, s.heap.Ns b m → (hidT s.heap H).Ns b m := fun {b m} ⟨o, es, n, e, d, r⟩ => ⟨o, es, n, offD e d, d, r⟩
  have kIn : K.In (hidT s.heap H) := fun b o e => hidT_get (KX b o e) (by
    rw [eH]
    cases q : hp0 K ts a vs ns b with
    | none => rfl
    | some u =>
      rcases hp0_is q with ⟨m, _⟩ | ⟨m, n, _⟩
      · rw [ets] at m
        obtain ⟨p, hp, rfl⟩ := List.mem_map.mp m
        rw [nT p hp] at e
        cases e
      · rw [m, n] at e
        cases e)
  have mod : L2.Mod K mg (hidT s.heap H) := ⟨kIn, ns_ gG, ⟨mb, ns_ gB, bB⟩, lim.elim fun mc h => ⟨mc, ns_ h.1, h.2⟩⟩
  have hok : HOk P w H s.heap := by rw [eH]; exact hp0_ok isT ha hi hl
  have e0 : Env0 P w K mg (hidT s.heap H) callerA [] s H := ⟨rfl, mod, fun b o e => of_hidT e, Nat.le_of_eq (hidT_size _ _), trivial, (fun b hb => by cases hb), hok, .of_eq noG⟩
  have tb : ∀ p ∈ cs, LamX.TabB (hidT s.heap H) mg p.1 p.2 := fun p hp => by
    have hTp := hT p hp
    refine ⟨?_, ?_, fun z => ?_⟩
    · obtain ⟨o, us, file, tf, flags, tg, inF, text, tt, e1, r1, r2, r⟩ := hC p hp
      refine ⟨o, us, file, tf, flags, tg, inF, text, tt, off e1 (fun z => ?_) (fun z => ?_), r1, r2, r⟩
      · rw [z] at r2
        have r3 := r.1
        cases r2
        simp at r3
      · rw [z] at r2
        cases r2
    · obtain ⟨bm, ob, b1, b2, b3, b4, b5, b6⟩ := bM
      refine ⟨bm, ob, b1, b2, fun z => ?_, fun z => ?_, off b3 (fun z => ?_) (fun z => ?_), b4, b5, b6⟩
      · obtain ⟨o, es, n, e, d, _⟩ := gG
        rw [z] at b3
        have q := Option.some.inj (b3.symm.trans e)
        rw [q, d] at b6
        cases b6
      · rw [z] at b3
        have q := Option.some.inj (b3.symm.trans hTp)
        rw [q] at b6
        cases b6
      · rw [z] at b6
        cases b6
      · rw [z] at b6
        cases b6
    · obtain ⟨o, es, n, e, d, _⟩ := gG
      rw [z] at e
      have q := Option.some.inj (e.symm.trans hTp)
      rw [q] at d
      cases d
  have sq : SqL K H a (ns.map V.int) := by
    cases lk : K.lookup a with
    | none => exact .inl (.inr ⟨scrO vs, by rw [eH]; exact hp0_scr aT lk⟩)
    | some o =>
      have q := Option.some.inj ((KX a o lk).symm.trans ha)
      subst q
      exact .inr ⟨_, vs.toArray, _, lk, rfl, rfl, rfl, by rw [List.size_toArray, hi.length]; exact hl, by simpa using vals_ints hi⟩
  have hTab : ∀ p ∈ cs, H p.2 = some (.tbl #[]) := fun p hp => by rw [eH]; exact hp0_tab (mT p hp)
  refine codeAny_mono (F _ kIn (ns_ gG) tb callerA [] s H [.ref a] [.ref a] (fun v _ => v = .bl true) E0 rfl hr e0 (.cons rfl .nil) (hsp H hTab sq)) fun r s' hq => ?_
  cases r with
  | error e => exact False.elim hq
  | ok fl =>
    cases fl with
    | next => exact False.elim hq
    | brk => exact False.elim hq
    | cont => exact False.elim hq
    | ret x =>
      obtain ⟨v, H', os, bare, un, hok', rv, qv⟩ := hq
      have qv : v = .bl true := qv
      subst qv
      obtain rfl : x = Value.bool true := rv
      have same : ∀ b o, b ∉ ts → s.heap.get? b = some o → s'.heap.get? b = some o := fun b o nb e => by
        cases q : H b with
        | none => exact un.keep b o e q (fun z => by cases z) (fun z => by cases z)
        | some u =>
          rw [eH] at q
          rcases hp0_is q with ⟨m, _⟩ | ⟨rfl, _, rfl⟩
          · exact absurd m nb
          · rw [← eH] at q
            have z1 := (hok b _ q).1
            have z2 := (hok' b _ (un.frzs b _ _ q)).1
            rw [z2, ← z1]
            exact e
      have grown : ∀ p ∈ cs, ∃ more : Array Value, s'.heap.get? p.2 = some { cls := .none, data := .fields more } := fun p hp => by
        obtain ⟨more, z⟩ := un.tbls p.2 #[] (hTab p hp)
        exact ⟨_, hok' p.2 _ z⟩
      refine ⟨rfl, ⟨fun b o e => ?_, fun b o e => ?_⟩, os, bare⟩
      · by_cases hb : b ∈ ts
        · rw [ets] at hb
          obtain ⟨p, hp, rfl⟩ := List.mem_map.mp hb
          obtain ⟨more, hm⟩ := grown p hp
          have q := Option.some.inj (e.symm.trans (hT p hp))
          subst q
          exact .inr (.inl ⟨((hC p hp).tab (hT p hp)).isCodeTable, rfl, #[], more, rfl, by rw [Array.empty_append]; exact hm⟩)
        · exact .inl (same b o hb e)
      · by_cases hb : b ∈ ts
        · rw [ets] at hb
          obtain ⟨p, hp, rfl⟩ := List.mem_map.mp hb
          obtain ⟨more, hm⟩ := grown p hp
          exact ⟨_, hm⟩
        · exact ⟨o, same b o hb e⟩
end K75
-- part Z1
set_option Elab.async false
set_option linter.all false
set_option maxRecDepth 100000
set_option maxHeartbeats 4000000
namespace K75
open PySem PySem.Spec PyProof.Rows L2
/-! ### the head's facts: defs found by any road, Bool facts, tables left out -/
abbrev Fg := PySem.W.Frag
structure DZ where
  at_ : Fg → Addr
  name : Str
  qual : Str
  params : Arguments
  body : List Stmt
  scope : Scope
  kwd : List (Str × V) := []
def DZ.sees (K : Fg) (d : DZ) : He.FnW := match K.lookup (d.at_ K) with
  | some ⟨_, _, .func z, _⟩ => some (z.name, z.qualname, z.params, z.body, z.scope, z.globals, z.closure, z.builtins)
  | _ => none
def DZ.want (d : DZ) : He.FnW := some (d.name, d.qual, d.params, .stmts d.body, d.scope, mainGlobals, [], builtinsNs)
def DZ.ok (K : Fg) (d : DZ) : Bool := PySem.W.keepIn K (.ref (d.at_ K)) && (match K.lookup (d.at_ K) with
  | some ⟨_, _, .func z, _⟩ => PySem.W.codeIn K z.code d.qual && (He.dflB K z.defaults [] && He.kwdB K z.kwdefaults d.kwd)
  | _ => false)
theorem DZ.fun_ {K : Fg} {d : DZ} (e : d.sees K = d.want) (c : d.ok K = true) : ∃ fd, FunD K d.name d.qual d.params d.body d.scope [] d.kwd (d.at_ K) fd := by
  obtain ⟨kp, c1⟩ := He.ba c
  unfold DZ.sees at e
  cases q : K.lookup (d.at_ K) with
  | none =>
    rw [q] at c1
    cases c1
  | some o =>
    obtain ⟨oc, od, dt, osl⟩ := o
    rw [q] at c1 e
    cases dt with
    | func z =>
      obtain ⟨z1, z2, z3, z4, z5, z6, z7, z8, z9, z10, z11, z12, z13, z14, z15⟩ := z
      have e1 : (some (z1, z2, z3, z4, z5, z6, z7, z15) : He.FnW) = d.want := e
      unfold DZ.want at e1
      simp only [Option.some.injEq, Prod.mk.injEq] at e1
      obtain ⟨h1, h2, h3, h4, h5, h6, h7, h8⟩ := e1
      subst h1 h2 h3 h4 h5 h6 h7 h8
      obtain ⟨k1, k2⟩ := He.ba (show (PySem.W.codeIn K z13 d.qual && (He.dflB K z8 [] && He.kwdB K z9 d.kwd)) = true from c1)
      obtain ⟨k3, k4⟩ := He.ba k2
      exact ⟨_, ⟨oc, od, z8, z9, z10, z11, z12, z13, z14, osl, rfl, q, k1, He.dflB_ok k3, He.kwdB_ok k4⟩, kp⟩
    | _ => cases c1
/-! roads -/
def aG (x : Str) (K : Fg) : Addr := He.ga K x
def aM (x m : Str) (K : Fg) : Addr := He.ma K (He.ga K x) m
def recG (K : Fg) (p : Addr) (t : String) : Addr := match PySem.W.recIn K p t with
  | some (.ref g :: _) => g
  | _ => 0
def aP (x m : Str) (K : Fg) : Addr := recG K (He.ma K (He.ga K x) m) "property"
def aC (x m : Str) (K : Fg) : Addr := recG K (He.ma K (He.ga K x) m) "classmethod"
def recB (K : Fg) (p : Addr) (t : String) : Bool := match PySem.W.recIn K p t with
  | some (.ref _ :: _) => true
  | _ => false
theorem recB_ok {K : Fg} {p : Addr} {t : String} (h : recB K p t = true) : ∃ r, PySem.W.recIn K p t = some (.ref (recG K p t) :: r) := by
  unfold recB at h
  unfold recG
  split at h
  · rename_i g r e
    exact ⟨r, by rw [e]⟩
  · cases h
/-! Bool facts -/
def bP (x m : Str) (K : Fg) : Bool := He.eqO (PySem.W.findIn K (.ref (He.ga K x)) m) (some (some (.ref (aM x m K)))) && (He.eqO (PySem.W.specialIn K (.ref (aM x m K)) "__get__") (some (some (.builtin "property.__get__"))) && (decide (PySem.W.takesIn K (.ref (aM x m K)) = some true) && recB K (aM x m K) "property"))
theorem bP_ok {x m : Str} {K : Fg} (h : bP x m K = true) : PropOf K (He.ga K x) m (aM x m K) (aP x m K) := by
  obtain ⟨h1, h⟩ := He.ba h
  obtain ⟨h2, h⟩ := He.ba h
  obtain ⟨h3, h4⟩ := He.ba h
  exact ⟨He.eqO_ok h1, He.eqO_ok h2, of_decide_eq_true h3, recB_ok h4⟩
def mcOf (x : Str) (K : Fg) : Value := match PySem.W.typeIn K (.ref (He.ga K x)) with
  | some v => v
  | none => .none
def isGetC (x m : Str) (K : Fg) : Bool := match PySem.W.findCls K (.ref (He.ga K x)) (mcOf x K) m with
  | some (.get (.builtin u) (.ref p) .none (.ref c)) => decide (u = "classmethod.__get__") && (decide (p = aM x m K) && decide (c = He.ga K x))
  | _ => false
theorem isGetC_ok {x m : Str} {K : Fg} (h : isGetC x m K = true) : PySem.W.findCls K (.ref (He.ga K x)) (mcOf x K) m = some (.get (.builtin "classmethod.__get__") (.ref (aM x m K)) .none (.ref (He.ga K x))) := by
  unfold isGetC at h
  split at h
  · rename_i u p c e
    obtain ⟨h1, h⟩ := He.ba h
    obtain ⟨h2, h3⟩ := He.ba h
    rw [e, of_decide_eq_true h1, of_decide_eq_true h2, of_decide_eq_true h3]
  · cases h
def bC (x m : Str) (K : Fg) : Bool := PySem.W.readsIn K (He.ga K x) (mcOf x K) && (He.eqO (PySem.W.specialIn K (.ref (He.ga K x)) "__getattribute__") (some (some (.builtin "type.__getattribute__"))) && (isGetC x m K && (recB K (aM x m K) "classmethod" && PySem.W.fnIn K (aC x m K))))
theorem bC_ok {x m : Str} {K : Fg} (h : bC x m K = true) : ClX.CRead K (He.ga K x) (mcOf x K) ∧ ClX.CMet K (He.ga K x) (mcOf x K) m (aM x m K) (aC x m K) := by
  obtain ⟨h1, h⟩ := He.ba h
  obtain ⟨h2, h⟩ := He.ba h
  obtain ⟨h3, h⟩ := He.ba h
  obtain ⟨h4, h5⟩ := He.ba h
  exact ⟨⟨h1, He.eqO_ok h2⟩, ⟨isGetC_ok h3, recB_ok h4, h5⟩⟩
def bNe (x : Str) (K : Fg) : Bool := He.eqO (PySem.W.findIn K (.ref (He.ga K x)) "__ne__") (some (some (.builtin "object.__ne__"))) && decide (PySem.W.subIn K (.ref (He.ga K x)) (.type "object") = some true)
theorem bNe_ok {x : Str} {K : Fg} (h : bNe x K = true) : NeC K (He.ga K x) := by
  obtain ⟨h1, h2⟩ := He.ba h
  exact ⟨He.eqO_ok h1, of_decide_eq_true h2⟩
def bIs (x : Str) (K : Fg) : Bool := (He.Fa.cls x).ok K && (He.eqO (PySem.W.findIn K (.ref (He.ga K x)) "__class__") (some (some (.builtin "object.__class__"))) && (He.eqO (PySem.W.specialIn K (.builtin "object.__class__") "__get__") (some (some (.builtin "getset_descriptor.__get__"))) &&
  (decide (PySem.W.takesIn K (.builtin "object.__class__") = some true) && (decide (PySem.W.mroIn K (He.ga K x) (.type "object") = some true) && decide (PySem.W.kitOne K (.ref (He.ga K x)) (.ref (He.ga K x)) = some true)))))
theorem bIs_ok {x : Str} {K : Fg} (h : bIs x K = true) : C8.InsC K (He.ga K x) := by
  obtain ⟨h1, h⟩ := He.ba h
  obtain ⟨h2, h⟩ := He.ba h
  obtain ⟨h3, h⟩ := He.ba h
  obtain ⟨h4, h⟩ := He.ba h
  obtain ⟨h5, h6⟩ := He.ba h
  exact ⟨He.cls_ok h1, He.eqO_ok h2, He.eqO_ok h3, of_decide_eq_true h4, of_decide_eq_true h5, of_decide_eq_true h6⟩
def bSf (x : Str) (K : Fg) : Bool := PySem.W.selfFirst K (He.ga K x)
def bFn (x m : Str) (K : Fg) : Bool := PySem.W.fnIn K (aM x m K)
def bDi (x y : Str) (K : Fg) : Bool := !(He.ga K x == He.ga K y)
theorem bDi_ok {x y : Str} {K : Fg} (h : bDi x y K = true) : He.ga K x ≠ He.ga K y := fun e => by
  unfold bDi at h
  rw [e] at h
  simp at h
/-! tables -/
def codeA (K : Fg) (f : Addr) : Addr := match K.lookup f with
  | some ⟨_, _, .func z, _⟩ => (match z.code with
    | .ref c => c
    | _ => 0)
  | _ => 0
def tabA (K : Fg) (f : Fg → Addr) : Addr × Addr := (codeA K (f K), He.tabOf K (codeA K (f K)))
theorem codeA_of {K : Fg} {x qual : Str} {ps : Arguments} {bd : List Stmt} {sc : Scope} {dvs : List V} {kws : List (Str × V)} {f : Addr} {fd : FuncData} (F : FunD K x qual ps bd sc dvs kws f fd) : fd.code = .ref (codeA K f) := by
  obtain ⟨oc, od, dV, kV, doc, pm, an, cdv, ct, osl, e, lk, hcd, _, _⟩ := F.ex
  have hc : fd.code = cdv := by rw [e]
  obtain ⟨c, ec⟩ := He.codeIn_ref hcd
  unfold codeA
  rw [lk]
  show fd.code = .ref (match fd.code with | .ref c => c | _ => 0)
  rw [hc, ec]
/-! the Hook: K holds what stands at the ends of some roads -/
abbrev Gt := Addr → Option Obj
def rfV : Value → Addr
  | .ref a => a
  | _ => 0
/-- a name in a namespace -/
def nsR (g : Gt) (b : Addr) (x : Str) : Addr := match g b with
  | some ⟨_, _, .dict es _, _⟩ => (match es.toList.find? (fun e => match e.key with
    | .str y _ => decide (y = x)
    | _ => false) with
    | some e => rfV e.val
    | none => 0)
  | _ => 0
def rG (x : Str) (g : Gt) : Addr := nsR g mainGlobals x
def rNs (x : Str) (g : Gt) : Addr := match g (rG x g) with
  | some ⟨_, _, .cls cd, _⟩ => cd.ns
  | _ => 0
def rM (x m : Str) (g : Gt) : Addr := nsR g (rNs x g) m
/-- what a property or a classmethod holds -/
def rR (p : Gt → Addr) (g : Gt) : Addr := match g (p g) with
  | some ⟨_, _, .fields vs, _⟩ => rfV (vs.getD 0 .none)
  | _ => 0
def rCode (p : Gt → Addr) (g : Gt) : Addr := match g (p g) with
  | some ⟨_, _, .func z, _⟩ => rfV z.code
  | _ => 0
def rKw (p : Gt → Addr) (g : Gt) : Addr := match g (p g) with
  | some ⟨_, _, .func z, _⟩ => rfV z.kwdefaults
  | _ => 0
def frZ (rs : List (Gt → Addr)) (g : Gt) : Fg := He.frT g (rs.map fun r => r g)
def goA {α : Type} (g : Gt) : List (Gt → Addr) → (List Addr → α) → α
  | [], k => k []
  | r :: rs, k => HandSHeadRun.frNat (r g) fun a => goA g rs fun l => k (a :: l)
def goK {α : Type} (g : Gt) : List Addr → (Fg → α) → α
  | [], k => k []
  | a :: as, k => match g a with
    | some o => (match He.emptyTab o with
      | true => goK g as k
      | false => goK g as fun l => k ((a, o) :: l))
    | none => goK g as k
theorem goA_eq {α : Type} {g : Gt} : ∀ (rs : List (Gt → Addr)) (k : List Addr → α), goA g rs k = k (rs.map fun r => r g)
  | [], k => rfl
  | r :: rs, k => by
    show HandSHeadRun.frNat (r g) (fun a => goA g rs fun l => k (a :: l)) = _
    rw [HandSHeadRun.frNat_eq, goA_eq rs]
    rfl
theorem goK_eq {α : Type} {g : Gt} : ∀ (as : List Addr) (k : Fg → α), goK g as k = k (He.frT g as)
  | [], k => rfl
  | a :: as, k => by
    show (match g a with
      | some o => (match He.emptyTab o with
        | true => goK g as k
        | false => goK g as fun l => k ((a, o) :: l))
      | none => goK g as k) = _
    unfold He.frT He.frG
    rw [List.filterMap_cons]
    cases q : g a with
    | none =>
      rw [goK_eq as]
      rfl
    | some o =>
      show (match He.emptyTab o with
        | true => goK g as k
        | false => goK g as fun l => k ((a, o) :: l)) = k (((a, o) :: He.frG g as).filter fun q => !He.emptyTab q.2)
      rw [List.filter_cons]
      cases e : He.emptyTab o with
      | true =>
        rw [if_neg (by simp [e])]
        exact goK_eq as k
      | false =>
        rw [if_pos (by simp [e])]
        exact goK_eq as fun l => k ((a, o) :: l)
def tabsZ (g : Gt) (tf : List (Fg → Addr)) (K : Fg) : Bool := tf.all fun f => PySem.W.codeHdIn K (tabA K f).1 (tabA K f).2 && (match g (tabA K f).2 with
  | some o => He.emptyTab o
  | none => false)
abbrev AZ : Type := Bool × List He.FnW
def seeZ (fa : List He.Fa) (fb : List (Fg → Bool)) (fz : List DZ) (tf : List (Fg → Addr)) (g : Gt) (K : Fg) : AZ :=
  ((fa.all fun f => f.ok K) && ((fb.all fun f => f K) && ((fz.all fun d => d.ok K) && tabsZ g tf K)), fz.map fun d => d.sees K)
def wantZ (fz : List DZ) : AZ := (true, fz.map fun d => d.want)
def obsZ (rs : List (Gt → Addr)) (fa : List He.Fa) (fb : List (Fg → Bool)) (fz : List DZ) (tf : List (Fg → Addr)) (g : Gt) : AZ := goA g rs fun as => goK g as fun K => seeZ fa fb fz tf g K
theorem obsZ_see (rs : List (Gt → Addr)) (fa : List He.Fa) (fb : List (Fg → Bool)) (fz : List DZ) (tf : List (Fg → Addr)) (g : Gt) : obsZ rs fa fb fz tf g = seeZ fa fb fz tf g (frZ rs g) := by
  unfold obsZ
  rw [goA_eq, goK_eq]
  rfl
structure SaysZ (fa : List He.Fa) (fb : List (Fg → Bool)) (fz : List DZ) (tf : List (Fg → Addr)) (h : Heap) (K : Fg) : Prop where
  fa_ : ∀ f ∈ fa, f.ok K = true
  fb_ : ∀ f ∈ fb, f K = true
  fz_ : ∀ d ∈ fz, ∃ fd, FunD K d.name d.qual d.params d.body d.scope [] d.kwd (d.at_ K) fd
  hd : ∀ f ∈ tf, PySem.W.codeHdIn K (tabA K f).1 (tabA K f).2 = true
  out : ∀ f ∈ tf, K.lookup (tabA K f).2 = none
  empty : ∀ f ∈ tf, h.get? (tabA K f).2 = some { cls := .none, data := .fields #[] }
theorem map_eq_at {α β : Type} {f g : α → β} : ∀ {l : List α}, l.map f = l.map g → ∀ x ∈ l, f x = g x
  | [], _, x, h => by cases h
  | a :: l, e, x, h => by
    rw [List.map_cons, List.map_cons] at e
    injection e with e1 e2
    rcases List.mem_cons.mp h with rfl | h
    · exact e1
    · exact map_eq_at e2 x h
theorem saysZ_of {n : List (Gt → Addr)} {fa : List He.Fa} {fb : List (Fg → Bool)} {fz : List DZ} {tf : List (Fg → Addr)} {h : Heap} (e : obsZ n fa fb fz tf h.get? = wantZ fz) : SaysZ fa fb fz tf h (frZ n h.get?) := by
  rw [obsZ_see] at e
  have e1 : ((fa.all fun f => f.ok (frZ n h.get?)) && ((fb.all fun f => f (frZ n h.get?)) && ((fz.all fun d => d.ok (frZ n h.get?)) && tabsZ h.get? tf (frZ n h.get?)))) = true := congrArg (fun z : AZ => z.1) e
  have e2 : (fz.map fun d => d.sees (frZ n h.get?)) = fz.map fun d => d.want := congrArg (fun z : AZ => z.2) e
  obtain ⟨h1, h2⟩ := He.ba e1
  obtain ⟨h2, h3⟩ := He.ba h2
  obtain ⟨h3, h4⟩ := He.ba h3
  have tk : ∀ f ∈ tf, PySem.W.codeHdIn (frZ n h.get?) (tabA (frZ n h.get?) f).1 (tabA (frZ n h.get?) f).2 = true ∧ ∃ o, h.get? (tabA (frZ n h.get?) f).2 = some o ∧ He.emptyTab o = true := fun f hf => by
    obtain ⟨k1, k2⟩ := He.ba (List.all_eq_true.mp h4 f hf)
    refine ⟨k1, ?_⟩
    split at k2
    · rename_i o q
      exact ⟨o, q, k2⟩
    · cases k2
  refine ⟨List.all_eq_true.mp h1, List.all_eq_true.mp h2, fun d hd => DZ.fun_ (map_eq_at e2 d hd) (List.all_eq_true.mp h3 d hd), fun f hf => (tk f hf).1, fun f hf => ?_, fun f hf => ?_⟩
  · obtain ⟨o, q, z⟩ := (tk f hf).2
    exact He.frT_none q z
  · obtain ⟨o, q, z⟩ := (tk f hf).2
    rw [q, He.emptyTab_eq z]
def hookZ (n : List (Gt → Addr)) (fa : List He.Fa) (fb : List (Fg → Bool)) (fz : List DZ) (tf : List (Fg → Addr)) : PySem.W.Hook where
  α := AZ
  obs := fun s => obsZ n fa fb fz tf s.heap.get?
  val := fun _ => wantZ fz
  says := fun _ h => ∃ K : Fg, K.In h ∧ SaysZ fa fb fz tf h K
  of := fun _ _ e => ⟨_, He.frT_in, saysZ_of e⟩
  keeps := fun _ _ _ ⟨K, hK, c⟩ k => ⟨K, PySem.W.Frag.In.keeps hK k, ⟨c.fa_, c.fb_, c.fz_, c.hd, c.out, fun f hf => k _ _ (c.empty f hf)⟩⟩
theorem obsZ_eq {n : List (Gt → Addr)} {fa : List He.Fa} {fb : List (Fg → Bool)} {fz : List DZ} {tf : List (Fg → Addr)} {g : Addr → Option Obj} {s : Shared} (h : ∀ a, g a = s.heap.get? a) : obsZ n fa fb fz tf g = (hookZ n fa fb fz tf).obs s := by
  have e : g = s.heap.get? := funext h
  rw [e]
  rfl
section
variable {fa : List He.Fa} {fb : List (Fg → Bool)} {fz : List DZ} {tf : List (Fg → Addr)} {h : Heap} {K : Fg}
theorem SaysZ.a (c : SaysZ fa fb fz tf h K) (i : Nat) {f : He.Fa} (e : fa[i]? = some f := by rfl) : f.ok K = true := c.fa_ f (List.mem_of_getElem? e)
theorem SaysZ.b (c : SaysZ fa fb fz tf h K) (i : Nat) {f : Fg → Bool} (e : fb[i]? = some f := by rfl) : f K = true := c.fb_ f (List.mem_of_getElem? e)
theorem SaysZ.z (c : SaysZ fa fb fz tf h K) (i : Nat) {d : DZ} (e : fz[i]? = some d := by rfl) : ∃ fd, FunD K d.name d.qual d.params d.body d.scope [] d.kwd (d.at_ K) fd := c.fz_ d (List.mem_of_getElem? e)
end
end K75
-- part Z2
set_option Elab.async false
set_option linter.all false
set_option maxRecDepth 100000
set_option maxHeartbeats 4000000
namespace K75
open PySem PySem.Spec PyProof.Rows L2
/-! the head's data -/
def fa75_0 : List (He.Fa) := [.free "int", .free "len", .free "abs", .free "max", .free "min", .free "sum", .free "all", .free "list", .free "tuple", .free "dict", .free "sorted", .free "range", .free "isinstance", .free "bool", .free "str", .free "repr", .int "TEXT_SIGNS" 8000, .int "PIECE_SIGNS" 5, .int "MAX_PIECES" 12, .int "MAX_ALPHABET" 4, .int "MAX_PRICE" 99, .int "MAX_VIEW" 2000, .int "MAX_WINDOWS" 2000, .int "MAX_FED" 8000, .glo "is_integer", .glo "is_integer_within", .glo "is_word", .glo "is_text", .glo "is_piece", .glo "is_price"]
def fa75_1 : List (He.Fa) := [.glo "are_prices", .glo "is_text_over", .glo "require_book", .glo "require_text", .glo "prices_along", .glo "cheapest_price_in", .glo "is_order", .glo "is_view", .glo "is_table", .glo "require_cutter", .glo "_law_reel_of", .glo "_law_spin", .glo "_law_pick", .glo "_law_mixed", .glo "_law_letters", .glo "_law_drawn_text", .glo "_law_drawn_book", .glo "_law_signs_of", .glo "_law_starting", .glo "_law_prices_along", .glo "_law_tell", .glo "_law_cut", .glo "_law_hasty", .glo "_law_run", .glo "_law_is_told", .glo "_law_parts", .glo "_law_cutter_of", .glo "_law_right", .glo "law", .glo "Book"]
def fa75_2 : List (He.Fa) := [.cls "Book", .noat "Book" "own_prices", .noat "Book" "own_pieces", .noat "Book" "own_alphabet", .noat "Book" "own_longest", .noat "Book" "own_dearest", .meth "Book" "accepts", .glo "Cutter", .cls "Cutter", .noat "Cutter" "own_book", .noat "Cutter" "own_order", .noat "Cutter" "own_view", .noat "Cutter" "own_table", .noat "Cutter" "own_ends", .noat "Cutter" "own_sizes", .meth "Cutter" "told_by", .meth "Cutter" "cut_in", .meth "Cutter" "price_in", .meth "Cutter" "cut", .meth "Cutter" "behind", .glo "Feeder", .cls "Feeder", .noat "Feeder" "own_source", .noat "Feeder" "own_book", .noat "Feeder" "own_text", .noat "Feeder" "own_told", .noat "Feeder" "own_cut", .noat "Feeder" "own_ended", .noat "Feeder" "own_calls", .meth "Feeder" "begin"]
def fa75_3 : List (He.Fa) := [.meth "Feeder" "more_told", .meth "Feeder" "last_told", .meth "Feeder" "go_on", .meth "Feeder" "require_open", .meth "Feeder" "feed", .meth "Feeder" "end", .meth "Feeder" "behind", .mkr "Book", .mkr "Cutter", .mkr "Feeder", .meth "Book" "__eq__", .meth "Cutter" "__eq__", .meth "Cutter" "__call__", .meth "Feeder" "__eq__", .meth "Feeder" "__iadd__", .meth "Feeder" "__len__", .meth "Feeder" "__bool__"]
def fa75 : List (He.Fa) := fa75_0 ++ fa75_1 ++ fa75_2 ++ fa75_3
def fb75_0 : List (Fg → Bool) := [bDi "Book" "Cutter", bDi "Book" "Feeder", bDi "Cutter" "Feeder", bNe "Book", bIs "Book", bNe "Cutter", bIs "Cutter", bNe "Feeder", bIs "Feeder", bSf "Feeder", bFn "Cutter" "__call__", bC "Cutter" "longest_first", bP "Feeder" "told", bP "Feeder" "waiting", bP "Feeder" "text", bP "Feeder" "spent", bP "Feeder" "is_ended"]
def fb75 : List (Fg → Bool) := fb75_0
def fz75_0 : List (DZ) := [⟨aG "is_integer", "is_integer", "is_integer", defArgs s_p_is_integer, defBody s_p_is_integer, defScope s_p_is_integer, []⟩, ⟨aG "is_integer_within", "is_integer_within", "is_integer_within", defArgs s_p_is_integer_within, defBody s_p_is_integer_within, defScope s_p_is_integer_within, []⟩, ⟨aG "is_word", "is_word", "is_word", defArgs s_p_is_word, defBody s_p_is_word, defScope s_p_is_word, []⟩, ⟨aG "is_text", "is_text", "is_text", defArgs s_p_is_text, defBody s_p_is_text, defScope s_p_is_text, []⟩, ⟨aG "is_piece", "is_piece", "is_piece", defArgs s_p_is_piece, defBody s_p_is_piece, defScope s_p_is_piece, []⟩, ⟨aG "is_price", "is_price", "is_price", defArgs s_p_is_price, defBody s_p_is_price, defScope s_p_is_price, []⟩, ⟨aG "are_prices", "are_prices", "are_prices", defArgs s_p_are_prices, defBody s_p_are_prices, defScope s_p_are_prices, []⟩, ⟨aG "is_text_over", "is_text_over", "is_text_over", defArgs s_p_is_text_over, defBody s_p_is_text_over, defScope s_p_is_text_over, []⟩, ⟨aG "require_book", "require_book", "require_book", defArgs s_p_require_book, defBody s_p_require_book, defScope s_p_require_book, []⟩, ⟨aG "require_text", "require_text", "require_text", defArgs s_p_require_text, defBody s_p_require_text, defScope s_p_require_text, []⟩, ⟨aG "prices_along", "prices_along", "prices_along", defArgs s_p_prices_along, defBody s_p_prices_along, defScope s_p_prices_along, []⟩, ⟨aG "cheapest_price_in", "cheapest_price_in", "cheapest_price_in", defArgs s_p_cheapest_price_in, defBody s_p_cheapest_price_in, defScope s_p_cheapest_price_in, []⟩, ⟨aG "is_order", "is_order", "is_order", defArgs s_p_is_order, defBody s_p_is_order, defScope s_p_is_order, []⟩, ⟨aG "is_view", "is_view", "is_view", defArgs s_p_is_view, defBody s_p_is_view, defScope s_p_is_view, []⟩, ⟨aG "is_table", "is_table", "is_table", defArgs s_p_is_table, defBody s_p_is_table, defScope s_p_is_table, []⟩, ⟨aG "require_cutter", "require_cutter", "require_cutter", defArgs s_p_require_cutter, defBody s_p_require_cutter, defScope s_p_require_cutter, []⟩, ⟨aG "_law_reel_of", "_law_reel_of", "_law_reel_of", defArgs s_reel_of, defBody s_reel_of, defScope s_reel_of, []⟩, ⟨aG "_law_spin", "_law_spin", "_law_spin", defArgs s_spin, defBody s_spin, defScope s_spin, []⟩, ⟨aG "_law_pick", "_law_pick", "_law_pick", defArgs s_pick, defBody s_pick, defScope s_pick, []⟩, ⟨aG "_law_mixed", "_law_mixed", "_law_mixed", defArgs s_mixed, defBody s_mixed, defScope s_mixed, []⟩]
def fz75_1 : List (DZ) := [⟨aG "_law_letters", "_law_letters", "_law_letters", defArgs s_letters, defBody s_letters, defScope s_letters, []⟩, ⟨aG "_law_drawn_text", "_law_drawn_text", "_law_drawn_text", defArgs s_drawn_text, defBody s_drawn_text, defScope s_drawn_text, []⟩, ⟨aG "_law_drawn_book", "_law_drawn_book", "_law_drawn_book", defArgs s_drawn_book, defBody s_drawn_book, defScope s_drawn_book, []⟩, ⟨aG "_law_signs_of", "_law_signs_of", "_law_signs_of", defArgs s_signs_of, defBody s_signs_of, defScope s_signs_of, []⟩, ⟨aG "_law_starting", "_law_starting", "_law_starting", defArgs s_starting, defBody s_starting, defScope s_starting, []⟩, ⟨aG "_law_prices_along", "_law_prices_along", "_law_prices_along", defArgs s_prices_along, defBody s_prices_along, defScope s_prices_along, []⟩, ⟨aG "_law_tell", "_law_tell", "_law_tell", defArgs s_tell, defBody s_tell, defScope s_tell, []⟩, ⟨aG "_law_cut", "_law_cut", "_law_cut", defArgs s_cut, defBody s_cut, defScope s_cut, []⟩, ⟨aG "_law_hasty", "_law_hasty", "_law_hasty", defArgs s_hasty, defBody s_hasty, defScope s_hasty, []⟩, ⟨aG "_law_run", "_law_run", "_law_run", defArgs s_run, defBody s_run, defScope s_run, []⟩, ⟨aG "_law_is_told", "_law_is_told", "_law_is_told", defArgs s_is_told, defBody s_is_told, defScope s_is_told, []⟩, ⟨aG "_law_parts", "_law_parts", "_law_parts", defArgs s_parts, defBody s_parts, defScope s_parts, []⟩, ⟨aG "_law_cutter_of", "_law_cutter_of", "_law_cutter_of", defArgs s_cutter_of, defBody s_cutter_of, defScope s_cutter_of, []⟩, ⟨aG "_law_right", "_law_right", "_law_right", defArgs s_right, defBody s_right, defScope s_right, []⟩, ⟨aG "law", "law", "law", defArgs s_law, defBody s_law, defScope s_law, []⟩, ⟨aM "Book" "accepts", "accepts", "Book.accepts", defArgs s_p_Book_accepts, defBody s_p_Book_accepts, defScope s_p_Book_accepts, []⟩, ⟨aM "Cutter" "told_by", "told_by", "Cutter.told_by", defArgs s_p_Cutter_told_by, defBody s_p_Cutter_told_by, defScope s_p_Cutter_told_by, []⟩, ⟨aM "Cutter" "cut_in", "cut_in", "Cutter.cut_in", defArgs s_p_Cutter_cut_in, defBody s_p_Cutter_cut_in, defScope s_p_Cutter_cut_in, []⟩, ⟨aM "Cutter" "price_in", "price_in", "Cutter.price_in", defArgs s_p_Cutter_price_in, defBody s_p_Cutter_price_in, defScope s_p_Cutter_price_in, []⟩, ⟨aM "Cutter" "cut", "cut", "Cutter.cut", defArgs s_p_Cutter_cut, defBody s_p_Cutter_cut, defScope s_p_Cutter_cut, []⟩]
def fz75_2 : List (DZ) := [⟨aM "Cutter" "behind", "behind", "Cutter.behind", defArgs s_p_Cutter_behind, defBody s_p_Cutter_behind, defScope s_p_Cutter_behind, []⟩, ⟨aM "Feeder" "begin", "begin", "Feeder.begin", defArgs s_p_Feeder_begin, defBody s_p_Feeder_begin, defScope s_p_Feeder_begin, []⟩, ⟨aM "Feeder" "more_told", "more_told", "Feeder.more_told", defArgs s_p_Feeder_more_told, defBody s_p_Feeder_more_told, defScope s_p_Feeder_more_told, []⟩, ⟨aM "Feeder" "last_told", "last_told", "Feeder.last_told", defArgs s_p_Feeder_last_told, defBody s_p_Feeder_last_told, defScope s_p_Feeder_last_told, []⟩, ⟨aM "Feeder" "go_on", "go_on", "Feeder.go_on", defArgs s_p_Feeder_go_on, defBody s_p_Feeder_go_on, defScope s_p_Feeder_go_on, []⟩, ⟨aM "Feeder" "require_open", "require_open", "Feeder.require_open", defArgs s_p_Feeder_require_open, defBody s_p_Feeder_require_open, defScope s_p_Feeder_require_open, []⟩, ⟨aM "Feeder" "feed", "feed", "Feeder.feed", defArgs s_p_Feeder_feed, defBody s_p_Feeder_feed, defScope s_p_Feeder_feed, []⟩, ⟨aM "Feeder" "end", "end", "Feeder.end", defArgs s_p_Feeder_end, defBody s_p_Feeder_end, defScope s_p_Feeder_end, []⟩, ⟨aM "Feeder" "behind", "behind", "Feeder.behind", defArgs s_p_Feeder_behind, defBody s_p_Feeder_behind, defScope s_p_Feeder_behind, []⟩, ⟨aM "Book" "__init__", "__init__", "Book.__init__", defArgs s_p_Book___init__, defBody s_p_Book___init__, defScope s_p_Book___init__, []⟩, ⟨aM "Cutter" "__init__", "__init__", "Cutter.__init__", defArgs s_p_Cutter___init__, defBody s_p_Cutter___init__, defScope s_p_Cutter___init__, [("view", .non), ("table", .non), ("ends", .non)]⟩, ⟨aM "Feeder" "__init__", "__init__", "Feeder.__init__", defArgs s_p_Feeder___init__, defBody s_p_Feeder___init__, defScope s_p_Feeder___init__, []⟩, ⟨aM "Book" "__eq__", "__eq__", "Book.__eq__", defArgs s_p_Book___eq__, defBody s_p_Book___eq__, defScope s_p_Book___eq__, []⟩, ⟨aM "Cutter" "__eq__", "__eq__", "Cutter.__eq__", defArgs s_p_Cutter___eq__, defBody s_p_Cutter___eq__, defScope s_p_Cutter___eq__, []⟩, ⟨aM "Cutter" "__call__", "__call__", "Cutter.__call__", defArgs s_p_Cutter___call__, defBody s_p_Cutter___call__, defScope s_p_Cutter___call__, []⟩, ⟨aM "Feeder" "__eq__", "__eq__", "Feeder.__eq__", defArgs s_p_Feeder___eq__, defBody s_p_Feeder___eq__, defScope s_p_Feeder___eq__, []⟩, ⟨aM "Feeder" "__iadd__", "__iadd__", "Feeder.__iadd__", defArgs s_p_Feeder___iadd__, defBody s_p_Feeder___iadd__, defScope s_p_Feeder___iadd__, []⟩, ⟨aM "Feeder" "__len__", "__len__", "Feeder.__len__", defArgs s_p_Feeder___len__, defBody s_p_Feeder___len__, defScope s_p_Feeder___len__, []⟩, ⟨aM "Feeder" "__bool__", "__bool__", "Feeder.__bool__", defArgs s_p_Feeder___bool__, defBody s_p_Feeder___bool__, defScope s_p_Feeder___bool__, []⟩, ⟨aC "Cutter" "longest_first", "longest_first", "Cutter.longest_first", defArgs s_p_Cutter_longest_first, defBody s_p_Cutter_longest_first, defScope s_p_Cutter_longest_first, []⟩]
def fz75_3 : List (DZ) := [⟨aP "Feeder" "told", "told", "Feeder.told", defArgs s_p_Feeder_told, defBody s_p_Feeder_told, defScope s_p_Feeder_told, []⟩, ⟨aP "Feeder" "waiting", "waiting", "Feeder.waiting", defArgs s_p_Feeder_waiting, defBody s_p_Feeder_waiting, defScope s_p_Feeder_waiting, []⟩, ⟨aP "Feeder" "text", "text", "Feeder.text", defArgs s_p_Feeder_text, defBody s_p_Feeder_text, defScope s_p_Feeder_text, []⟩, ⟨aP "Feeder" "spent", "spent", "Feeder.spent", defArgs s_p_Feeder_spent, defBody s_p_Feeder_spent, defScope s_p_Feeder_spent, []⟩, ⟨aP "Feeder" "is_ended", "is_ended", "Feeder.is_ended", defArgs s_p_Feeder_is_ended, defBody s_p_Feeder_is_ended, defScope s_p_Feeder_is_ended, []⟩]
def fz75 : List (DZ) := fz75_0 ++ fz75_1 ++ fz75_2 ++ fz75_3
def rs75_0 : List (Gt → Addr) := [fun _ => mainGlobals, fun _ => cStatics, rG "Book", rNs "Book", rG "Cutter", rNs "Cutter", rG "Feeder", rNs "Feeder", rG "is_integer", rCode (rG "is_integer"), rG "is_integer_within", rCode (rG "is_integer_within"), rG "is_word", rCode (rG "is_word"), rG "is_text", rCode (rG "is_text"), rG "is_piece", rCode (rG "is_piece"), rG "is_price", rCode (rG "is_price"), rG "are_prices", rCode (rG "are_prices"), rG "is_text_over", rCode (rG "is_text_over"), rG "require_book", rCode (rG "require_book"), rG "require_text", rCode (rG "require_text"), rG "prices_along", rCode (rG "prices_along")]
def rs75_1 : List (Gt → Addr) := [rG "cheapest_price_in", rCode (rG "cheapest_price_in"), rG "is_order", rCode (rG "is_order"), rG "is_view", rCode (rG "is_view"), rG "is_table", rCode (rG "is_table"), rG "require_cutter", rCode (rG "require_cutter"), rG "_law_reel_of", rCode (rG "_law_reel_of"), rG "_law_spin", rCode (rG "_law_spin"), rG "_law_pick", rCode (rG "_law_pick"), rG "_law_mixed", rCode (rG "_law_mixed"), rG "_law_letters", rCode (rG "_law_letters"), rG "_law_drawn_text", rCode (rG "_law_drawn_text"), rG "_law_drawn_book", rCode (rG "_law_drawn_book"), rG "_law_signs_of", rCode (rG "_law_signs_of"), rG "_law_starting", rCode (rG "_law_starting"), rG "_law_prices_along", rCode (rG "_law_prices_along")]
def rs75_2 : List (Gt → Addr) := [rG "_law_tell", rCode (rG "_law_tell"), rG "_law_cut", rCode (rG "_law_cut"), rG "_law_hasty", rCode (rG "_law_hasty"), rG "_law_run", rCode (rG "_law_run"), rG "_law_is_told", rCode (rG "_law_is_told"), rG "_law_parts", rCode (rG "_law_parts"), rG "_law_cutter_of", rCode (rG "_law_cutter_of"), rG "_law_right", rCode (rG "_law_right"), rG "law", rCode (rG "law"), rM "Book" "accepts", rCode (rM "Book" "accepts"), rM "Cutter" "told_by", rCode (rM "Cutter" "told_by"), rM "Cutter" "cut_in", rCode (rM "Cutter" "cut_in"), rM "Cutter" "price_in", rCode (rM "Cutter" "price_in"), rM "Cutter" "cut", rCode (rM "Cutter" "cut"), rM "Cutter" "behind", rCode (rM "Cutter" "behind")]
def rs75_3 : List (Gt → Addr) := [rM "Feeder" "begin", rCode (rM "Feeder" "begin"), rM "Feeder" "more_told", rCode (rM "Feeder" "more_told"), rM "Feeder" "last_told", rCode (rM "Feeder" "last_told"), rM "Feeder" "go_on", rCode (rM "Feeder" "go_on"), rM "Feeder" "require_open", rCode (rM "Feeder" "require_open"), rM "Feeder" "feed", rCode (rM "Feeder" "feed"), rM "Feeder" "end", rCode (rM "Feeder" "end"), rM "Feeder" "behind", rCode (rM "Feeder" "behind"), rM "Book" "__init__", rCode (rM "Book" "__init__"), rM "Cutter" "__init__", rCode (rM "Cutter" "__init__"), rKw (rM "Cutter" "__init__"), rM "Feeder" "__init__", rCode (rM "Feeder" "__init__"), rM "Book" "__eq__", rCode (rM "Book" "__eq__"), rM "Cutter" "__eq__", rCode (rM "Cutter" "__eq__"), rM "Cutter" "__call__", rCode (rM "Cutter" "__call__"), rM "Feeder" "__eq__"]
def rs75_4 : List (Gt → Addr) := [rCode (rM "Feeder" "__eq__"), rM "Feeder" "__iadd__", rCode (rM "Feeder" "__iadd__"), rM "Feeder" "__len__", rCode (rM "Feeder" "__len__"), rM "Feeder" "__bool__", rCode (rM "Feeder" "__bool__"), rM "Cutter" "longest_first", rR (rM "Cutter" "longest_first"), rCode (rR (rM "Cutter" "longest_first")), rM "Feeder" "told", rR (rM "Feeder" "told"), rCode (rR (rM "Feeder" "told")), rM "Feeder" "waiting", rR (rM "Feeder" "waiting"), rCode (rR (rM "Feeder" "waiting")), rM "Feeder" "text", rR (rM "Feeder" "text"), rCode (rR (rM "Feeder" "text")), rM "Feeder" "spent", rR (rM "Feeder" "spent"), rCode (rR (rM "Feeder" "spent")), rM "Feeder" "is_ended", rR (rM "Feeder" "is_ended"), rCode (rR (rM "Feeder" "is_ended"))]
def rs75 : List (Gt → Addr) := rs75_0 ++ rs75_1 ++ rs75_2 ++ rs75_3 ++ rs75_4
def tf75 : List (Fg → Addr) := [aC "Cutter" "longest_first"]
theorem ty_of {K : Fg} {h : Heap} {mg : Str → Option Value} (X : K.In h) (G : h.Ns mainGlobals mg) (c : SaysZ fa75 fb75 fz75 tf75 h K) : Ty K mg (He.ga K "Book") (He.ga K "Cutter") (He.ga K "Feeder") where
  n_int := He.free_ok X G (c.a 0)
  n_len := He.free_ok X G (c.a 1)
  n_abs := He.free_ok X G (c.a 2)
  n_max := He.free_ok X G (c.a 3)
  n_min := He.free_ok X G (c.a 4)
  n_sum := He.free_ok X G (c.a 5)
  n_all := He.free_ok X G (c.a 6)
  n_list := He.free_ok X G (c.a 7)
  n_tuple := He.free_ok X G (c.a 8)
  n_dict := He.free_ok X G (c.a 9)
  n_sorted := He.free_ok X G (c.a 10)
  n_range := He.free_ok X G (c.a 11)
  n_isinstance := He.free_ok X G (c.a 12)
  n_bool := He.free_ok X G (c.a 13)
  n_str := He.free_ok X G (c.a 14)
  n_repr := He.free_ok X G (c.a 15)
  g_TEXT_SIGNS := He.int_ok X G (c.a 16)
  g_PIECE_SIGNS := He.int_ok X G (c.a 17)
  g_MAX_PIECES := He.int_ok X G (c.a 18)
  g_MAX_ALPHABET := He.int_ok X G (c.a 19)
  g_MAX_PRICE := He.int_ok X G (c.a 20)
  g_MAX_VIEW := He.int_ok X G (c.a 21)
  g_MAX_WINDOWS := He.int_ok X G (c.a 22)
  g_MAX_FED := He.int_ok X G (c.a 23)
  d_p_is_integer := (c.z 0 (d := ⟨aG "is_integer", "is_integer", "is_integer", defArgs s_p_is_integer, defBody s_p_is_integer, defScope s_p_is_integer, []⟩)).elim fun fd F => ⟨_, fd, F, He.glo_ok X G (c.a 24)⟩
  d_p_is_integer_within := (c.z 1 (d := ⟨aG "is_integer_within", "is_integer_within", "is_integer_within", defArgs s_p_is_integer_within, defBody s_p_is_integer_within, defScope s_p_is_integer_within, []⟩)).elim fun fd F => ⟨_, fd, F, He.glo_ok X G (c.a 25)⟩
  d_p_is_word := (c.z 2 (d := ⟨aG "is_word", "is_word", "is_word", defArgs s_p_is_word, defBody s_p_is_word, defScope s_p_is_word, []⟩)).elim fun fd F => ⟨_, fd, F, He.glo_ok X G (c.a 26)⟩
  d_p_is_text := (c.z 3 (d := ⟨aG "is_text", "is_text", "is_text", defArgs s_p_is_text, defBody s_p_is_text, defScope s_p_is_text, []⟩)).elim fun fd F => ⟨_, fd, F, He.glo_ok X G (c.a 27)⟩
  d_p_is_piece := (c.z 4 (d := ⟨aG "is_piece", "is_piece", "is_piece", defArgs s_p_is_piece, defBody s_p_is_piece, defScope s_p_is_piece, []⟩)).elim fun fd F => ⟨_, fd, F, He.glo_ok X G (c.a 28)⟩
  d_p_is_price := (c.z 5 (d := ⟨aG "is_price", "is_price", "is_price", defArgs s_p_is_price, defBody s_p_is_price, defScope s_p_is_price, []⟩)).elim fun fd F => ⟨_, fd, F, He.glo_ok X G (c.a 29)⟩
  d_p_are_prices := (c.z 6 (d := ⟨aG "are_prices", "are_prices", "are_prices", defArgs s_p_are_prices, defBody s_p_are_prices, defScope s_p_are_prices, []⟩)).elim fun fd F => ⟨_, fd, F, He.glo_ok X G (c.a 30)⟩
  d_p_is_text_over := (c.z 7 (d := ⟨aG "is_text_over", "is_text_over", "is_text_over", defArgs s_p_is_text_over, defBody s_p_is_text_over, defScope s_p_is_text_over, []⟩)).elim fun fd F => ⟨_, fd, F, He.glo_ok X G (c.a 31)⟩
  d_p_require_book := (c.z 8 (d := ⟨aG "require_book", "require_book", "require_book", defArgs s_p_require_book, defBody s_p_require_book, defScope s_p_require_book, []⟩)).elim fun fd F => ⟨_, fd, F, He.glo_ok X G (c.a 32)⟩
  d_p_require_text := (c.z 9 (d := ⟨aG "require_text", "require_text", "require_text", defArgs s_p_require_text, defBody s_p_require_text, defScope s_p_require_text, []⟩)).elim fun fd F => ⟨_, fd, F, He.glo_ok X G (c.a 33)⟩
  d_p_prices_along := (c.z 10 (d := ⟨aG "prices_along", "prices_along", "prices_along", defArgs s_p_prices_along, defBody s_p_prices_along, defScope s_p_prices_along, []⟩)).elim fun fd F => ⟨_, fd, F, He.glo_ok X G (c.a 34)⟩
  d_p_cheapest_price_in := (c.z 11 (d := ⟨aG "cheapest_price_in", "cheapest_price_in", "cheapest_price_in", defArgs s_p_cheapest_price_in, defBody s_p_cheapest_price_in, defScope s_p_cheapest_price_in, []⟩)).elim fun fd F => ⟨_, fd, F, He.glo_ok X G (c.a 35)⟩
  d_p_is_order := (c.z 12 (d := ⟨aG "is_order", "is_order", "is_order", defArgs s_p_is_order, defBody s_p_is_order, defScope s_p_is_order, []⟩)).elim fun fd F => ⟨_, fd, F, He.glo_ok X G (c.a 36)⟩
  d_p_is_view := (c.z 13 (d := ⟨aG "is_view", "is_view", "is_view", defArgs s_p_is_view, defBody s_p_is_view, defScope s_p_is_view, []⟩)).elim fun fd F => ⟨_, fd, F, He.glo_ok X G (c.a 37)⟩
  d_p_is_table := (c.z 14 (d := ⟨aG "is_table", "is_table", "is_table", defArgs s_p_is_table, defBody s_p_is_table, defScope s_p_is_table, []⟩)).elim fun fd F => ⟨_, fd, F, He.glo_ok X G (c.a 38)⟩
  d_p_require_cutter := (c.z 15 (d := ⟨aG "require_cutter", "require_cutter", "require_cutter", defArgs s_p_require_cutter, defBody s_p_require_cutter, defScope s_p_require_cutter, []⟩)).elim fun fd F => ⟨_, fd, F, He.glo_ok X G (c.a 39)⟩
  d_reel_of := (c.z 16 (d := ⟨aG "_law_reel_of", "_law_reel_of", "_law_reel_of", defArgs s_reel_of, defBody s_reel_of, defScope s_reel_of, []⟩)).elim fun fd F => ⟨_, fd, F, He.glo_ok X G (c.a 40)⟩
  d_spin := (c.z 17 (d := ⟨aG "_law_spin", "_law_spin", "_law_spin", defArgs s_spin, defBody s_spin, defScope s_spin, []⟩)).elim fun fd F => ⟨_, fd, F, He.glo_ok X G (c.a 41)⟩
  d_pick := (c.z 18 (d := ⟨aG "_law_pick", "_law_pick", "_law_pick", defArgs s_pick, defBody s_pick, defScope s_pick, []⟩)).elim fun fd F => ⟨_, fd, F, He.glo_ok X G (c.a 42)⟩
  d_mixed := (c.z 19 (d := ⟨aG "_law_mixed", "_law_mixed", "_law_mixed", defArgs s_mixed, defBody s_mixed, defScope s_mixed, []⟩)).elim fun fd F => ⟨_, fd, F, He.glo_ok X G (c.a 43)⟩
  d_letters := (c.z 20 (d := ⟨aG "_law_letters", "_law_letters", "_law_letters", defArgs s_letters, defBody s_letters, defScope s_letters, []⟩)).elim fun fd F => ⟨_, fd, F, He.glo_ok X G (c.a 44)⟩
  d_drawn_text := (c.z 21 (d := ⟨aG "_law_drawn_text", "_law_drawn_text", "_law_drawn_text", defArgs s_drawn_text, defBody s_drawn_text, defScope s_drawn_text, []⟩)).elim fun fd F => ⟨_, fd, F, He.glo_ok X G (c.a 45)⟩
  d_drawn_book := (c.z 22 (d := ⟨aG "_law_drawn_book", "_law_drawn_book", "_law_drawn_book", defArgs s_drawn_book, defBody s_drawn_book, defScope s_drawn_book, []⟩)).elim fun fd F => ⟨_, fd, F, He.glo_ok X G (c.a 46)⟩
  d_signs_of := (c.z 23 (d := ⟨aG "_law_signs_of", "_law_signs_of", "_law_signs_of", defArgs s_signs_of, defBody s_signs_of, defScope s_signs_of, []⟩)).elim fun fd F => ⟨_, fd, F, He.glo_ok X G (c.a 47)⟩
  d_starting := (c.z 24 (d := ⟨aG "_law_starting", "_law_starting", "_law_starting", defArgs s_starting, defBody s_starting, defScope s_starting, []⟩)).elim fun fd F => ⟨_, fd, F, He.glo_ok X G (c.a 48)⟩
  d_prices_along := (c.z 25 (d := ⟨aG "_law_prices_along", "_law_prices_along", "_law_prices_along", defArgs s_prices_along, defBody s_prices_along, defScope s_prices_along, []⟩)).elim fun fd F => ⟨_, fd, F, He.glo_ok X G (c.a 49)⟩
  d_tell := (c.z 26 (d := ⟨aG "_law_tell", "_law_tell", "_law_tell", defArgs s_tell, defBody s_tell, defScope s_tell, []⟩)).elim fun fd F => ⟨_, fd, F, He.glo_ok X G (c.a 50)⟩
  d_cut := (c.z 27 (d := ⟨aG "_law_cut", "_law_cut", "_law_cut", defArgs s_cut, defBody s_cut, defScope s_cut, []⟩)).elim fun fd F => ⟨_, fd, F, He.glo_ok X G (c.a 51)⟩
  d_hasty := (c.z 28 (d := ⟨aG "_law_hasty", "_law_hasty", "_law_hasty", defArgs s_hasty, defBody s_hasty, defScope s_hasty, []⟩)).elim fun fd F => ⟨_, fd, F, He.glo_ok X G (c.a 52)⟩
  d_run := (c.z 29 (d := ⟨aG "_law_run", "_law_run", "_law_run", defArgs s_run, defBody s_run, defScope s_run, []⟩)).elim fun fd F => ⟨_, fd, F, He.glo_ok X G (c.a 53)⟩
  d_is_told := (c.z 30 (d := ⟨aG "_law_is_told", "_law_is_told", "_law_is_told", defArgs s_is_told, defBody s_is_told, defScope s_is_told, []⟩)).elim fun fd F => ⟨_, fd, F, He.glo_ok X G (c.a 54)⟩
  d_parts := (c.z 31 (d := ⟨aG "_law_parts", "_law_parts", "_law_parts", defArgs s_parts, defBody s_parts, defScope s_parts, []⟩)).elim fun fd F => ⟨_, fd, F, He.glo_ok X G (c.a 55)⟩
  d_cutter_of := (c.z 32 (d := ⟨aG "_law_cutter_of", "_law_cutter_of", "_law_cutter_of", defArgs s_cutter_of, defBody s_cutter_of, defScope s_cutter_of, []⟩)).elim fun fd F => ⟨_, fd, F, He.glo_ok X G (c.a 56)⟩
  d_right := (c.z 33 (d := ⟨aG "_law_right", "_law_right", "_law_right", defArgs s_right, defBody s_right, defScope s_right, []⟩)).elim fun fd F => ⟨_, fd, F, He.glo_ok X G (c.a 57)⟩
  d_law := (c.z 34 (d := ⟨aG "law", "law", "law", defArgs s_law, defBody s_law, defScope s_law, []⟩)).elim fun fd F => ⟨_, fd, F, He.glo_ok X G (c.a 58)⟩
  g_Book := He.glo_ok X G (c.a 59)
  cl_Book := He.cls_ok (c.a 60)
  no_Book_own_prices := He.noat_ok (c.a 61)
  no_Book_own_pieces := He.noat_ok (c.a 62)
  no_Book_own_alphabet := He.noat_ok (c.a 63)
  no_Book_own_longest := He.noat_ok (c.a 64)
  no_Book_own_dearest := He.noat_ok (c.a 65)
  m_Book_accepts := (c.z 35 (d := ⟨aM "Book" "accepts", "accepts", "Book.accepts", defArgs s_p_Book_accepts, defBody s_p_Book_accepts, defScope s_p_Book_accepts, []⟩)).elim fun fd F => ⟨_, fd, F, He.meth_ok (c.a 66)⟩
  g_Cutter := He.glo_ok X G (c.a 67)
  cl_Cutter := He.cls_ok (c.a 68)
  no_Cutter_own_book := He.noat_ok (c.a 69)
  no_Cutter_own_order := He.noat_ok (c.a 70)
  no_Cutter_own_view := He.noat_ok (c.a 71)
  no_Cutter_own_table := He.noat_ok (c.a 72)
  no_Cutter_own_ends := He.noat_ok (c.a 73)
  no_Cutter_own_sizes := He.noat_ok (c.a 74)
  m_Cutter_told_by := (c.z 36 (d := ⟨aM "Cutter" "told_by", "told_by", "Cutter.told_by", defArgs s_p_Cutter_told_by, defBody s_p_Cutter_told_by, defScope s_p_Cutter_told_by, []⟩)).elim fun fd F => ⟨_, fd, F, He.meth_ok (c.a 75)⟩
  m_Cutter_cut_in := (c.z 37 (d := ⟨aM "Cutter" "cut_in", "cut_in", "Cutter.cut_in", defArgs s_p_Cutter_cut_in, defBody s_p_Cutter_cut_in, defScope s_p_Cutter_cut_in, []⟩)).elim fun fd F => ⟨_, fd, F, He.meth_ok (c.a 76)⟩
  m_Cutter_price_in := (c.z 38 (d := ⟨aM "Cutter" "price_in", "price_in", "Cutter.price_in", defArgs s_p_Cutter_price_in, defBody s_p_Cutter_price_in, defScope s_p_Cutter_price_in, []⟩)).elim fun fd F => ⟨_, fd, F, He.meth_ok (c.a 77)⟩
  m_Cutter_cut := (c.z 39 (d := ⟨aM "Cutter" "cut", "cut", "Cutter.cut", defArgs s_p_Cutter_cut, defBody s_p_Cutter_cut, defScope s_p_Cutter_cut, []⟩)).elim fun fd F => ⟨_, fd, F, He.meth_ok (c.a 78)⟩
  m_Cutter_behind := (c.z 40 (d := ⟨aM "Cutter" "behind", "behind", "Cutter.behind", defArgs s_p_Cutter_behind, defBody s_p_Cutter_behind, defScope s_p_Cutter_behind, []⟩)).elim fun fd F => ⟨_, fd, F, He.meth_ok (c.a 79)⟩
  g_Feeder := He.glo_ok X G (c.a 80)
  cl_Feeder := He.cls_ok (c.a 81)
  no_Feeder_own_source := He.noat_ok (c.a 82)
  no_Feeder_own_book := He.noat_ok (c.a 83)
  no_Feeder_own_text := He.noat_ok (c.a 84)
  no_Feeder_own_told := He.noat_ok (c.a 85)
  no_Feeder_own_cut := He.noat_ok (c.a 86)
  no_Feeder_own_ended := He.noat_ok (c.a 87)
  no_Feeder_own_calls := He.noat_ok (c.a 88)
  m_Feeder_begin := (c.z 41 (d := ⟨aM "Feeder" "begin", "begin", "Feeder.begin", defArgs s_p_Feeder_begin, defBody s_p_Feeder_begin, defScope s_p_Feeder_begin, []⟩)).elim fun fd F => ⟨_, fd, F, He.meth_ok (c.a 89)⟩
  m_Feeder_more_told := (c.z 42 (d := ⟨aM "Feeder" "more_told", "more_told", "Feeder.more_told", defArgs s_p_Feeder_more_told, defBody s_p_Feeder_more_told, defScope s_p_Feeder_more_told, []⟩)).elim fun fd F => ⟨_, fd, F, He.meth_ok (c.a 90)⟩
  m_Feeder_last_told := (c.z 43 (d := ⟨aM "Feeder" "last_told", "last_told", "Feeder.last_told", defArgs s_p_Feeder_last_told, defBody s_p_Feeder_last_told, defScope s_p_Feeder_last_told, []⟩)).elim fun fd F => ⟨_, fd, F, He.meth_ok (c.a 91)⟩
  m_Feeder_go_on := (c.z 44 (d := ⟨aM "Feeder" "go_on", "go_on", "Feeder.go_on", defArgs s_p_Feeder_go_on, defBody s_p_Feeder_go_on, defScope s_p_Feeder_go_on, []⟩)).elim fun fd F => ⟨_, fd, F, He.meth_ok (c.a 92)⟩
  m_Feeder_require_open := (c.z 45 (d := ⟨aM "Feeder" "require_open", "require_open", "Feeder.require_open", defArgs s_p_Feeder_require_open, defBody s_p_Feeder_require_open, defScope s_p_Feeder_require_open, []⟩)).elim fun fd F => ⟨_, fd, F, He.meth_ok (c.a 93)⟩
  m_Feeder_feed := (c.z 46 (d := ⟨aM "Feeder" "feed", "feed", "Feeder.feed", defArgs s_p_Feeder_feed, defBody s_p_Feeder_feed, defScope s_p_Feeder_feed, []⟩)).elim fun fd F => ⟨_, fd, F, He.meth_ok (c.a 94)⟩
  m_Feeder_end := (c.z 47 (d := ⟨aM "Feeder" "end", "end", "Feeder.end", defArgs s_p_Feeder_end, defBody s_p_Feeder_end, defScope s_p_Feeder_end, []⟩)).elim fun fd F => ⟨_, fd, F, He.meth_ok (c.a 95)⟩
  m_Feeder_behind := (c.z 48 (d := ⟨aM "Feeder" "behind", "behind", "Feeder.behind", defArgs s_p_Feeder_behind, defBody s_p_Feeder_behind, defScope s_p_Feeder_behind, []⟩)).elim fun fd F => ⟨_, fd, F, He.meth_ok (c.a 96)⟩
  n_BC := bDi_ok (c.b 0)
  n_BF := bDi_ok (c.b 1)
  n_CF := bDi_ok (c.b 2)
  i_Book := (c.z 49 (d := ⟨aM "Book" "__init__", "__init__", "Book.__init__", defArgs s_p_Book___init__, defBody s_p_Book___init__, defScope s_p_Book___init__, []⟩)).elim fun fd F => ⟨_, fd, He.mkr_ok (c.a 97), F, He.glo_ok X G (c.a 59)⟩
  ne_Book := bNe_ok (c.b 3)
  is_Book := bIs_ok (c.b 4)
  i_Cutter := (c.z 50 (d := ⟨aM "Cutter" "__init__", "__init__", "Cutter.__init__", defArgs s_p_Cutter___init__, defBody s_p_Cutter___init__, defScope s_p_Cutter___init__, [("view", .non), ("table", .non), ("ends", .non)]⟩)).elim fun fd F => ⟨_, fd, He.mkr_ok (c.a 98), F, He.glo_ok X G (c.a 67)⟩
  ne_Cutter := bNe_ok (c.b 5)
  is_Cutter := bIs_ok (c.b 6)
  i_Feeder := (c.z 51 (d := ⟨aM "Feeder" "__init__", "__init__", "Feeder.__init__", defArgs s_p_Feeder___init__, defBody s_p_Feeder___init__, defScope s_p_Feeder___init__, []⟩)).elim fun fd F => ⟨_, fd, He.mkr_ok (c.a 99), F, He.glo_ok X G (c.a 80)⟩
  ne_Feeder := bNe_ok (c.b 7)
  is_Feeder := bIs_ok (c.b 8)
  sf_Feeder := c.b 9
  s_Book___eq__ := (c.z 52 (d := ⟨aM "Book" "__eq__", "__eq__", "Book.__eq__", defArgs s_p_Book___eq__, defBody s_p_Book___eq__, defScope s_p_Book___eq__, []⟩)).elim fun fd F => ⟨_, fd, (He.meth_ok (c.a 100)).at_, (He.meth_ok (c.a 100)).fn, F⟩
  s_Cutter___eq__ := (c.z 53 (d := ⟨aM "Cutter" "__eq__", "__eq__", "Cutter.__eq__", defArgs s_p_Cutter___eq__, defBody s_p_Cutter___eq__, defScope s_p_Cutter___eq__, []⟩)).elim fun fd F => ⟨_, fd, (He.meth_ok (c.a 101)).at_, (He.meth_ok (c.a 101)).fn, F⟩
  s_Cutter___call__ := (c.z 54 (d := ⟨aM "Cutter" "__call__", "__call__", "Cutter.__call__", defArgs s_p_Cutter___call__, defBody s_p_Cutter___call__, defScope s_p_Cutter___call__, []⟩)).elim fun fd F => ⟨_, fd, ⟨(He.meth_ok (c.a 102)).at_, (He.meth_ok (c.a 102)).fn, c.b 10⟩, F⟩
  s_Feeder___eq__ := (c.z 55 (d := ⟨aM "Feeder" "__eq__", "__eq__", "Feeder.__eq__", defArgs s_p_Feeder___eq__, defBody s_p_Feeder___eq__, defScope s_p_Feeder___eq__, []⟩)).elim fun fd F => ⟨_, fd, (He.meth_ok (c.a 103)).at_, (He.meth_ok (c.a 103)).fn, F⟩
  s_Feeder___iadd__ := (c.z 56 (d := ⟨aM "Feeder" "__iadd__", "__iadd__", "Feeder.__iadd__", defArgs s_p_Feeder___iadd__, defBody s_p_Feeder___iadd__, defScope s_p_Feeder___iadd__, []⟩)).elim fun fd F => ⟨_, fd, (He.meth_ok (c.a 104)).at_, (He.meth_ok (c.a 104)).fn, F⟩
  s_Feeder___len__ := (c.z 57 (d := ⟨aM "Feeder" "__len__", "__len__", "Feeder.__len__", defArgs s_p_Feeder___len__, defBody s_p_Feeder___len__, defScope s_p_Feeder___len__, []⟩)).elim fun fd F => ⟨_, fd, (He.meth_ok (c.a 105)).at_, (He.meth_ok (c.a 105)).fn, F⟩
  s_Feeder___bool__ := (c.z 58 (d := ⟨aM "Feeder" "__bool__", "__bool__", "Feeder.__bool__", defArgs s_p_Feeder___bool__, defBody s_p_Feeder___bool__, defScope s_p_Feeder___bool__, []⟩)).elim fun fd F => ⟨_, fd, (He.meth_ok (c.a 106)).at_, (He.meth_ok (c.a 106)).fn, F⟩
  k_Cutter_longest_first := (c.z 59 (d := ⟨aC "Cutter" "longest_first", "longest_first", "Cutter.longest_first", defArgs s_p_Cutter_longest_first, defBody s_p_Cutter_longest_first, defScope s_p_Cutter_longest_first, []⟩)).elim fun fd F => ⟨_, _, _, fd, (bC_ok (c.b 11)).1, (bC_ok (c.b 11)).2, F⟩
  p_Feeder_told := (c.z 60 (d := ⟨aP "Feeder" "told", "told", "Feeder.told", defArgs s_p_Feeder_told, defBody s_p_Feeder_told, defScope s_p_Feeder_told, []⟩)).elim fun fd F => ⟨_, _, fd, bP_ok (c.b 12), F⟩
  p_Feeder_waiting := (c.z 61 (d := ⟨aP "Feeder" "waiting", "waiting", "Feeder.waiting", defArgs s_p_Feeder_waiting, defBody s_p_Feeder_waiting, defScope s_p_Feeder_waiting, []⟩)).elim fun fd F => ⟨_, _, fd, bP_ok (c.b 13), F⟩
  p_Feeder_text := (c.z 62 (d := ⟨aP "Feeder" "text", "text", "Feeder.text", defArgs s_p_Feeder_text, defBody s_p_Feeder_text, defScope s_p_Feeder_text, []⟩)).elim fun fd F => ⟨_, _, fd, bP_ok (c.b 14), F⟩
  p_Feeder_spent := (c.z 63 (d := ⟨aP "Feeder" "spent", "spent", "Feeder.spent", defArgs s_p_Feeder_spent, defBody s_p_Feeder_spent, defScope s_p_Feeder_spent, []⟩)).elim fun fd F => ⟨_, _, fd, bP_ok (c.b 15), F⟩
  p_Feeder_is_ended := (c.z 64 (d := ⟨aP "Feeder" "is_ended", "is_ended", "Feeder.is_ended", defArgs s_p_Feeder_is_ended, defBody s_p_Feeder_is_ended, defScope s_p_Feeder_is_ended, []⟩)).elim fun fd F => ⟨_, _, fd, bP_ok (c.b 16), F⟩
theorem cmt_of75 {K : Fg} {h : Heap} (c : SaysZ fa75 fb75 fz75 tf75 h K) : CmtC K (He.ga K "Cutter") "longest_first" "Cutter.longest_first" s_p_Cutter_longest_first (tabA K (aC "Cutter" "longest_first")).1 :=
  (c.z 59 (d := ⟨aC "Cutter" "longest_first", "longest_first", "Cutter.longest_first", defArgs s_p_Cutter_longest_first, defBody s_p_Cutter_longest_first, defScope s_p_Cutter_longest_first, []⟩)).elim fun fd F => ⟨_, _, _, fd, (bC_ok (c.b 11)).1, (bC_ok (c.b 11)).2, F, codeA_of F⟩
end K75
-- part Z3
set_option Elab.async false
set_option linter.all false
set_option maxRecDepth 100000
set_option maxHeartbeats 0
namespace K75
open PySem PySem.W PySem.Calls PyProof.Rows
abbrev R75 : OpenRow := OpenLaw.row PySem.Challenge.rw_cutbehind_k75_whole_feeders_of_parted_te
abbrev qv75 : Program := view R75.prog [66]
def names75 : List PySem.Str := (["_wall", "__name__", "TEXT_SIGNS", "PIECE_SIGNS", "is_integer", "is_integer_within", "is_word", "is_text", "is_piece", "is_ascending", "CutError", "InvalidText", "InvalidBook", "InvalidCutter", "InvalidOperation", "UnknownPiece", "TooMany", "InvalidNumber", "MAX_PIECES", "MAX_ALPHABET", "MAX_PRICE", "is_price", "are_prices", "are_pairs", "are_pieces_of", "is_text_over", "require_book", "require_text", "require_other"] : List PySem.Str) ++ (["result_of", "Book", "prices_along", "cheapest_price_in", "MAX_VIEW", "MAX_WINDOWS", "is_order", "is_view", "is_table", "require_cutter", "Cutter", "MAX_FED", "Feeder", "_law_reel_of", "_law_spin", "_law_pick", "_law_mixed", "_law_letters", "_law_drawn_text", "_law_drawn_book", "_law_signs_of", "_law_starting", "_law_prices_along", "_law_tell"] : List PySem.Str) ++ (["_law_cut", "_law_hasty", "_law_run", "_law_is_told", "_law_parts", "_law_cutter_of", "_law_right"] : List PySem.Str)
abbrev hk75 : PySem.W.Hook := hookZ rs75 fa75 fb75 fz75 tf75
def ob75 (s : PySem.W.SharedT) : AZ := obsZ rs75 fa75 fb75 fz75 tf75 (HandSHeadRun.getT s)
theorem ob75_eq (s : PySem.W.SharedT) : ob75 s = hk75.obs s.abs := obsZ_eq (HandSHeadRun.getT_eq s)
theorem run75 (w : World) : HandSHeadRun.RunEq R75 qv75 hk75 ob75 8000 names75 w := by
  intro os
  kernel_rfl
end K75
-- part Z4
set_option Elab.async false
set_option linter.all false
set_option maxRecDepth 100000
set_option maxHeartbeats 0
namespace K75
open PySem PySem.W PySem.Calls PyProof.Rows L2
/-- the end: what the law leaves, from the head's facts -/
theorem walkZ {l : PySem.W.OpenLaw} {n k : Nat} {q : Program} {loose : List PySem.Str} {XP : (PySem.Str → Option Value) → Heap → Prop} {d : DefRec} {rs : List (Gt → Addr)} {fa : List He.Fa} {fb : List (Fg → Bool)} {fz : List DZ} {tf : List (Fg → Addr)} {sp : Fg → Sp}
    (hn : l.most = some n) (hn2 : n ≤ sizeLine) (hdf : d.params.defaults = []) (hr : Room k callerA)
    (F : ∀ (w : World) (mg : PySem.Str → Option Value) (h base : Heap) (K : Fg), K.In h → h.Ns mainGlobals mg → SaysZ fa fb fz tf h K → K.In base → (∀ f ∈ tf, LamX.TabB base mg (tabA K f).1 (tabA K f).2) → CalG l.prog w K mg base k d.name (sp K))
    (hsp : ∀ (K : Fg) (H : Hp) (a : Addr) (ns : List Int), ns.length ≤ n → (∀ z ∈ ns, Builtin.Int.intBits z ≤ 1048576) → (∀ f ∈ tf, H (tabA K f).2 = some (.tbl #[])) → SqL K H a (ns.map V.int) → sp K [.ref a] H (fun v _ => v = .bl true) E0) :
    PySem.W.WalkO q loose XP (hookZ rs fa fb fz tf).says l.row.toRowW d [] (fun f vs => PySem.call f vs) := by
  refine Att.attach_callB hn hdf fun w s₀ s₁ mg mb f o pm cd doc a vs ns G Y ho hd hcd hmg hobj hints hlen hbits hg => ?_
  obtain ⟨K, KX, c⟩ := Y
  have mem : ∀ p ∈ tf.map (fun f => tabA K f), ∃ f ∈ tf, p = tabA K f := fun p hp => by
    obtain ⟨f, hf, e⟩ := List.mem_map.mp hp
    exact ⟨f, hf, e.symm⟩
  refine law_end (cs := tf.map fun f => tabA K f) (sp := sp K) KX G.T.g G.T.b G.T.builtins G.T.nolimit hg (fun p hp => ?_) (fun p hp => ?_) (fun p hp => ?_) G.T.bmain hobj hints (Nat.le_trans hlen hn2) hr (fun base kb _ tb => ?_) (fun H hT sq => hsp K H a ns hlen hbits (fun f hf => hT _ (List.mem_map_of_mem hf)) sq)
  · obtain ⟨f, hf, rfl⟩ := mem p hp
    exact c.empty f hf
  · obtain ⟨f, hf, rfl⟩ := mem p hp
    exact c.out f hf
  · obtain ⟨f, hf, rfl⟩ := mem p hp
    exact codeHd_of_K KX (c.hd f hf)
  · obtain ⟨g, h1, h2, h3⟩ := F w mg s₁.heap base K KX G.T.g c kb (fun f hf => tb _ (List.mem_map_of_mem hf))
    have e := hmg.symm.trans h1
    cases e
    exact h3
end K75
open PySem PySem.W PySem.Calls PyProof.Rows
theorem PySem.Challenge.cw_cutbehind_k75_whole_feeders_of_parted_te_holds : PySem.Challenge.rw_cutbehind_k75_whole_feeders_of_parted_te.Holds := by
  w_on; o_law
  refine HandSHeadRun.head_any (r := OpenLaw.row PySem.Challenge.rw_cutbehind_k75_whole_feeders_of_parted_te) (q := K75.qv75) (H := K75.hk75) (ob := K75.ob75) (M := 8000) (loose := K75.names75) (d := HandSHeadRun.topDef (OpenLaw.row PySem.Challenge.rw_cutbehind_k75_whole_feeders_of_parted_te).prog 66) (kwd := []) K75.ob75_eq
    (by kernel_rfl) (fun s => by kernel_rfl) K75.run75 (by kernel_rfl) (by kernel_rfl) (by kernel_rfl) (by rfl) (by first | assumption | decide +kernel) (by decide +kernel) ⟨rfl, rfl, rfl, rfl, rfl, by decide +kernel⟩ ?hw ?hc
  case hw => w_witness2
  case hc =>
    refine K75.walkZ (l := PySem.Challenge.rw_cutbehind_k75_whole_feeders_of_parted_te) (n := 63) (k := 11) (sp := fun K => K75.sp_law K (K75.tabA K (K75.aC "Cutter" "longest_first")).2) rfl (by decide) (by kernel_rfl) ⟨rfl, by decide, by decide⟩ (fun w mg h base K KX G c kb tb => ?_) (fun K H a ns hl hb hT sq => ?_)
    · have T := K75.ty_of KX G c
      exact K75.c_law T (K75.c_longest T (K75.cmt_of75 c) (tb _ (List.mem_singleton.mpr rfl)))
    · exact ⟨a, ns, rfl, sq, hT _ (List.mem_singleton.mpr rfl), fun _ => rfl⟩
#print axioms PySem.Challenge.cw_cutbehind_k75_whole_feeders_of_parted_te_holds
