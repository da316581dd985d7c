import PyProof.Rows.All
import Wide.All
import OpenK.AllK
import Wide.FinOn
import HandS.ForMost
import HandS.Defaults
import HandS.Codes
import HandS.Wide
import PyProof.ListStr
import PyProof.StrOps2
import PyProof.ReprRoads
import PyProof.ReprLen
import HandS.RaiseMore
import HandS.ListItems
import HandS.WordsDict
import HandS.Walk
import KE.KOpsOwn
import HandS.More
import HandS.Star
import HandS.Property
import HandS.ClsMeth
import HandS.MakeKw
import HandS.MakeKwOnly
import HandS.IsInst
import PyProof.TupleOfSeq
import HandS.SetBool
import HandS.Strs
import KE.KDictList
import HandS.DictComp
import PyProof.P3Eq
import HandS.CallLocal
import HandS.Lambda
import KE.SortKeyHeap
import HandS.Finally
import KE.KDictLaws
import HandS.Style
import KE.KExcIs
import HandS.Nested
import KE.KCallOwn
import HandS.FStr
import KE.KMinBuiltin
import HandS.EndTab
import HandS.HeadHook1
import HandS.HeadHook2
import HandS.HeadHook3
import HandS.HeadHook4
import HandS.Head0
import KE.KStateDown
import Lean
import HandS.Head1
import HandS.Head2
import HandS.EndBits
import PySem.Challenge.RW_cutbehind_k84_whole_two_ways_to_a_shelf
-- part B0
set_option Elab.async false
set_option linter.all false
set_option maxRecDepth 100000
set_option maxHeartbeats 4000000
namespace K75
open PySem PySem.Spec PyProof.Rows L2
/-! the text by places -/
def topS (i : Nat) : Stmt := PySem.Challenge.pw_cutbehind_k84_whole_two_ways_to_a_shelf.main.body.getD i (.Pass ⟨0, 0, 0, 0⟩)
/-- a def of the module under its own name, without defaults -/
def DefF (K : PySem.W.Frag) (mg : Str → Option Value) (x : Str) (st : Stmt) : Prop :=
  ∃ f fd, FunD K x x (defArgs st) (defBody st) (defScope st) [] [] f fd ∧ mg x = some (.ref f)
/-- a callable by its body -/
theorem cal_of {P : Program} {w : World} {K : PySem.W.Frag} {mg : Str → Option Value} {base : Heap} {x : Str} {st : Stmt} {N ps : List Str} {k : Nat} {sp : Sp} (F : DefF K mg x st) (S : FnScope N ps (defScope st))
    (hb : ∀ (kV doc pm : Value) (an : Option Addr) (cdv ct : Value) (us : List Value), us.length = ps.length → bindArgs (PySem.W.fnOf x x (defArgs st) (defBody st) (defScope st) .none kV doc pm an cdv ct) ⟨us, []⟩ = pure (ps.zip us))
    (len : ∀ vs H Q E, sp vs H Q E → vs.length = ps.length)
    (hbody : ∀ (cdv : Value) (A : Around) (outer : List Env) (f : Addr) (s : Shared) (H : Hp) (vs : List V) (Q : VK) (E : XK), Room k (A.deeper (envOfC x (defScope st) s.heap.objs.size f cdv)) → sp vs H Q E →
      ∃ t, PSs (cxOf CX0 P w K mg base N x (defScope st) f cdv A outer s H E).nox (defBody st) t ∧ t { nx := fun _ H' => Q .non H', rt := Q } (start N vs) H) : C8.Cal P w K mg base (k + 1) x sp [] := by
  obtain ⟨f, fd, F, hm⟩ := F
  refine ⟨f, fd, ps, [], F.ok S len (fun cdv A outer s H vs Q E hr h => ?_), hm, F.kp, F.bindsN hb, .nil⟩
  obtain ⟨t, ht, q⟩ := hbody cdv A outer f s H vs Q E hr h
  exact ⟨t, ht.nox, q⟩
/-! heaps -/
/-- all but what stands at the addresses of D is kept -/
def Kp (D : List Addr) (H H' : Hp) : Prop := ∀ b o, H b = some o → b ∉ D → H' b = some o
/-- the reel: a list of three ints -/
def Reel (H : Hp) (r : Addr) : Prop := ∃ a b c : Int, H r = some (.lst [.int a, .int b, .int c])
end K75
-- part B1
set_option Elab.async false
set_option linter.all false
set_option maxRecDepth 100000
set_option maxHeartbeats 4000000
namespace K75
open PySem PySem.Spec PyProof.Rows L2
/-- a method of the class at C, without defaults -/
def MethF (K : PySem.W.Frag) (C : Addr) (m qual : Str) (st : Stmt) : Prop :=
  ∃ f fd, FunD K m qual (defArgs st) (defBody st) (defScope st) [] [] f fd ∧ Meth K C m f
/-- a method by its body -/
theorem met_of {P : Program} {w : World} {K : PySem.W.Frag} {mg : Str → Option Value} {base : Heap} {m qual : Str} {C : Addr} {st : Stmt} {N ps : List Str} {k : Nat} {sp : Sp} (F : MethF K C m qual st) (c : Cls K C) (S : FnScope N ps (defScope st))
    (hb : ∀ (kV doc pm : Value) (an : Option Addr) (cdv ct : Value) (us : List Value), us.length = ps.length → bindArgs (PySem.W.fnOf m qual (defArgs st) (defBody st) (defScope st) .none kV doc pm an cdv ct) ⟨us, []⟩ = pure (ps.zip us))
    (len : ∀ vs H Q E, sp vs H Q E → vs.length = ps.length)
    (hbody : ∀ (cdv : Value) (A : Around) (outer : List Env) (f : Addr) (s : Shared) (H : Hp) (vs : List V) (Q : VK) (E : XK), Room k (A.deeper (envOfC qual (defScope st) s.heap.objs.size f cdv)) → sp vs H Q E →
      ∃ t, PSs (cxOf CX0 P w K mg base N qual (defScope st) f cdv A outer s H E).nox (defBody st) t ∧ t { nx := fun _ H' => Q .non H', rt := Q } (start N vs) H) : C8.Met P w K mg base (k + 1) C m sp [] := by
  obtain ⟨f, fd, F, hm⟩ := F
  refine ⟨f, fd, ps, [], c, hm, F.ok S len (fun cdv A outer s H vs Q E hr h => ?_), F.bindsN hb, .nil⟩
  obtain ⟨t, ht, q⟩ := hbody cdv A outer f s H vs Q E hr h
  exact ⟨t, ht.nox, q⟩
abbrev s_p_is_integer : Stmt := topS 4
abbrev N_p_is_integer : List Str := ["value"]
theorem sc_p_is_integer : FnScope N_p_is_integer ["value"] (defScope s_p_is_integer) := ⟨rfl, rfl, rfl, by decide +kernel, rfl, by decide +kernel, by decide +kernel⟩

abbrev s_p_is_integer_within : Stmt := topS 5
abbrev N_p_is_integer_within : List Str := ["value", "least", "most"]
theorem sc_p_is_integer_within : FnScope N_p_is_integer_within ["value", "least", "most"] (defScope s_p_is_integer_within) := ⟨rfl, rfl, rfl, by decide +kernel, rfl, by decide +kernel, by decide +kernel⟩

abbrev s_p_is_word : Stmt := topS 6
abbrev N_p_is_word : List Str := ["value", "letter"]
theorem sc_p_is_word : FnScope N_p_is_word ["value"] (defScope s_p_is_word) := ⟨rfl, rfl, rfl, by decide +kernel, rfl, by decide +kernel, by decide +kernel⟩

abbrev s_p_is_text : Stmt := topS 7
abbrev N_p_is_text : List Str := ["value"]
theorem sc_p_is_text : FnScope N_p_is_text ["value"] (defScope s_p_is_text) := ⟨rfl, rfl, rfl, by decide +kernel, rfl, by decide +kernel, by decide +kernel⟩

abbrev s_p_is_piece : Stmt := topS 8
abbrev N_p_is_piece : List Str := ["value"]
theorem sc_p_is_piece : FnScope N_p_is_piece ["value"] (defScope s_p_is_piece) := ⟨rfl, rfl, rfl, by decide +kernel, rfl, by decide +kernel, by decide +kernel⟩

abbrev s_p_is_price : Stmt := topS 26
abbrev N_p_is_price : List Str := ["value"]
theorem sc_p_is_price : FnScope N_p_is_price ["value"] (defScope s_p_is_price) := ⟨rfl, rfl, rfl, by decide +kernel, rfl, by decide +kernel, by decide +kernel⟩

abbrev s_p_are_prices : Stmt := topS 27
abbrev N_p_are_prices : List Str := ["value", "piece", "sign", "price"]
theorem sc_p_are_prices : FnScope N_p_are_prices ["value"] (defScope s_p_are_prices) := ⟨rfl, rfl, rfl, by decide +kernel, rfl, by decide +kernel, by decide +kernel⟩

abbrev s_p_is_text_over : Stmt := topS 30
abbrev N_p_is_text_over : List Str := ["book", "value", "sign"]
theorem sc_p_is_text_over : FnScope N_p_is_text_over ["book", "value"] (defScope s_p_is_text_over) := ⟨rfl, rfl, rfl, by decide +kernel, rfl, by decide +kernel, by decide +kernel⟩

abbrev s_p_require_book : Stmt := topS 31
abbrev N_p_require_book : List Str := ["value"]
theorem sc_p_require_book : FnScope N_p_require_book ["value"] (defScope s_p_require_book) := ⟨rfl, rfl, rfl, by decide +kernel, rfl, by decide +kernel, by decide +kernel⟩

abbrev s_p_require_text : Stmt := topS 32
abbrev N_p_require_text : List Str := ["book", "value"]
theorem sc_p_require_text : FnScope N_p_require_text ["book", "value"] (defScope s_p_require_text) := ⟨rfl, rfl, rfl, by decide +kernel, rfl, by decide +kernel, by decide +kernel⟩

abbrev s_p_prices_along : Stmt := topS 37
abbrev N_p_prices_along : List Str := ["book", "text", "found", "stop", "best", "start", "price"]
theorem sc_p_prices_along : FnScope N_p_prices_along ["book", "text"] (defScope s_p_prices_along) := ⟨rfl, rfl, rfl, by decide +kernel, rfl, by decide +kernel, by decide +kernel⟩

abbrev s_p_cheapest_price_in : Stmt := topS 38
abbrev N_p_cheapest_price_in : List Str := ["book", "text"]
theorem sc_p_cheapest_price_in : FnScope N_p_cheapest_price_in ["book", "text"] (defScope s_p_cheapest_price_in) := ⟨rfl, rfl, rfl, by decide +kernel, rfl, by decide +kernel, by decide +kernel⟩

abbrev s_p_is_order : Stmt := topS 42
abbrev N_p_is_order : List Str := ["book", "value", "piece"]
theorem sc_p_is_order : FnScope N_p_is_order ["book", "value"] (defScope s_p_is_order) := ⟨rfl, rfl, rfl, by decide +kernel, rfl, by decide +kernel, by decide +kernel⟩

abbrev s_p_is_view : Stmt := topS 43
abbrev N_p_is_view : List Str := ["value"]
theorem sc_p_is_view : FnScope N_p_is_view ["value"] (defScope s_p_is_view) := ⟨rfl, rfl, rfl, by decide +kernel, rfl, by decide +kernel, by decide +kernel⟩

abbrev s_p_is_table : Stmt := topS 44
abbrev N_p_is_table : List Str := ["book", "value", "most", "text", "piece"]
theorem sc_p_is_table : FnScope N_p_is_table ["book", "value", "most"] (defScope s_p_is_table) := ⟨rfl, rfl, rfl, by decide +kernel, rfl, by decide +kernel, by decide +kernel⟩

abbrev s_p_require_cutter : Stmt := topS 45
abbrev N_p_require_cutter : List Str := ["value"]
theorem sc_p_require_cutter : FnScope N_p_require_cutter ["value"] (defScope s_p_require_cutter) := ⟨rfl, rfl, rfl, by decide +kernel, rfl, by decide +kernel, by decide +kernel⟩

abbrev s_p_shared_start : Stmt := topS 48
abbrev N_p_shared_start : List Str := ["one", "other", "count", "first", "second"]
theorem sc_p_shared_start : FnScope N_p_shared_start ["one", "other"] (defScope s_p_shared_start) := ⟨rfl, rfl, rfl, by decide +kernel, rfl, by decide +kernel, by decide +kernel⟩

abbrev s_p_cuts_compared : Stmt := topS 49
abbrev N_p_cuts_compared : List Str := ["cutter", "old", "new", "one", "other", "index", "ended"]
theorem sc_p_cuts_compared : FnScope N_p_cuts_compared ["cutter", "old", "new"] (defScope s_p_cuts_compared) := ⟨rfl, rfl, rfl, by decide +kernel, rfl, by decide +kernel, by decide +kernel⟩

abbrev s_p_recut : Stmt := topS 50
abbrev N_p_recut : List Str := ["cutter", "text", "start", "stop", "signs"]
theorem sc_p_recut : FnScope N_p_recut ["cutter", "text", "start", "stop", "signs"] (defScope s_p_recut) := ⟨rfl, rfl, rfl, by decide +kernel, rfl, by decide +kernel, by decide +kernel⟩

abbrev s_p_is_name : Stmt := topS 54
abbrev N_p_is_name : List Str := ["value"]
theorem sc_p_is_name : FnScope N_p_is_name ["value"] (defScope s_p_is_name) := ⟨rfl, rfl, rfl, by decide +kernel, rfl, by decide +kernel, by decide +kernel⟩

abbrev s_p_require_call : Stmt := topS 55
abbrev N_p_require_call : List Str := ["value"]
theorem sc_p_require_call : FnScope N_p_require_call ["value"] (defScope s_p_require_call) := ⟨rfl, rfl, rfl, by decide +kernel, rfl, by decide +kernel, by decide +kernel⟩

abbrev s_p_require_many : Stmt := topS 56
abbrev N_p_require_many : List Str := ["value"]
theorem sc_p_require_many : FnScope N_p_require_many ["value"] (defScope s_p_require_many) := ⟨rfl, rfl, rfl, by decide +kernel, rfl, by decide +kernel, by decide +kernel⟩

abbrev s_reel : Stmt := topS 60
abbrev N_reel : List Str := ["script", "spot", "cell", "great", "blend"]
theorem sc_reel : FnScope N_reel ["script", "spot"] (defScope s_reel) := ⟨rfl, rfl, rfl, by decide +kernel, rfl, by decide +kernel, by decide +kernel⟩

abbrev s_spin : Stmt := topS 61
abbrev N_spin : List Str := ["reel", "total", "found", "one", "two"]
theorem sc_spin : FnScope N_spin ["reel", "total"] (defScope s_spin) := ⟨rfl, rfl, rfl, by decide +kernel, rfl, by decide +kernel, by decide +kernel⟩

abbrev s_pick : Stmt := topS 62
abbrev N_pick : List Str := ["reel", "items"]
theorem sc_pick : FnScope N_pick ["reel", "items"] (defScope s_pick) := ⟨rfl, rfl, rfl, by decide +kernel, rfl, by decide +kernel, by decide +kernel⟩

abbrev s_some : Stmt := topS 63
abbrev N_some : List Str := ["reel", "items", "lots", "left", "found", "turn"]
theorem sc_some : FnScope N_some ["reel", "items", "lots"] (defScope s_some) := ⟨rfl, rfl, rfl, by decide +kernel, rfl, by decide +kernel, by decide +kernel⟩

abbrev s_text : Stmt := topS 64
abbrev N_text : List Str := ["reel", "signs", "lots", "at"]
theorem sc_text : FnScope N_text ["reel", "signs", "lots"] (defScope s_text) := ⟨rfl, rfl, rfl, by decide +kernel, rfl, by decide +kernel, by decide +kernel⟩

abbrev s_signs : Stmt := topS 65
abbrev N_signs : List Str := ["reel", "lots"]
theorem sc_signs : FnScope N_signs ["reel", "lots"] (defScope s_signs) := ⟨rfl, rfl, rfl, by decide +kernel, rfl, by decide +kernel, by decide +kernel⟩

abbrev s_prices : Stmt := topS 66
abbrev N_prices : List Str := ["reel", "signs", "lots", "size", "top", "found", "turn", "piece", "sign"]
theorem sc_prices : FnScope N_prices ["reel", "signs", "lots", "size", "top"] (defScope s_prices) := ⟨rfl, rfl, rfl, by decide +kernel, rfl, by decide +kernel, by decide +kernel⟩

abbrev s_plan : Stmt := topS 67
abbrev N_plan : List Str := ["reel", "prices", "top", "signs", "span", "order", "plan", "name", "size", "lots", "turn", "text", "starting", "piece"]
theorem sc_plan : FnScope N_plan ["reel", "prices", "top"] (defScope s_plan) := ⟨rfl, rfl, rfl, by decide +kernel, rfl, by decide +kernel, by decide +kernel⟩

abbrev s_cutter : Stmt := topS 68
abbrev N_cutter : List Str := ["plan", "rows", "stops"]
theorem sc_cutter : FnScope N_cutter ["plan"] (defScope s_cutter) := ⟨rfl, rfl, rfl, by decide +kernel, rfl, by decide +kernel, by decide +kernel⟩

abbrev s_tell : Stmt := topS 69
abbrev N_tell : List Str := ["plan", "window", "ended", "known", "text", "piece"]
theorem sc_tell : FnScope N_tell ["plan", "window", "ended"] (defScope s_tell) := ⟨rfl, rfl, rfl, by decide +kernel, rfl, by decide +kernel, by decide +kernel⟩

abbrev s_cut : Stmt := topS 70
abbrev N_cut : List Str := ["plan", "text", "found", "at", "window"]
theorem sc_cut : FnScope N_cut ["plan", "text"] (defScope s_cut) := ⟨rfl, rfl, rfl, by decide +kernel, rfl, by decide +kernel, by decide +kernel⟩

abbrev s_price : Stmt := topS 71
abbrev N_price : List Str := ["plan", "text", "piece"]
theorem sc_price : FnScope N_price ["plan", "text"] (defScope s_price) := ⟨rfl, rfl, rfl, by decide +kernel, rfl, by decide +kernel, by decide +kernel⟩

abbrev s_alphabet : Stmt := topS 72
abbrev N_alphabet : List Str := ["plan", "piece"]
theorem sc_alphabet : FnScope N_alphabet ["plan"] (defScope s_alphabet) := ⟨rfl, rfl, rfl, by decide +kernel, rfl, by decide +kernel, by decide +kernel⟩

abbrev s_name : Stmt := topS 73
abbrev N_name : List Str := ["reel"]
theorem sc_name : FnScope N_name ["reel"] (defScope s_name) := ⟨rfl, rfl, rfl, by decide +kernel, rfl, by decide +kernel, by decide +kernel⟩

abbrev s_shelf_plan : Stmt := topS 74
abbrev N_shelf_plan : List Str := ["reel", "signs", "top", "prices"]
theorem sc_shelf_plan : FnScope N_shelf_plan ["reel"] (defScope s_shelf_plan) := ⟨rfl, rfl, rfl, by decide +kernel, rfl, by decide +kernel, by decide +kernel⟩

abbrev s_span : Stmt := topS 75
abbrev N_span : List Str := ["reel", "text", "start"]
theorem sc_span : FnScope N_span ["reel", "text"] (defScope s_span) := ⟨rfl, rfl, rfl, by decide +kernel, rfl, by decide +kernel, by decide +kernel⟩

abbrev s_walk : Stmt := topS 76
abbrev N_walk : List Str := ["reel", "script", "plan", "shelf", "sums", "prices", "signs", "found", "spot", "cell", "great", "step", "name", "text", "held", "start", "stop", "index", "gone", "came", "rows", "piece"]
theorem sc_walk : FnScope N_walk ["reel", "script", "plan", "shelf", "sums"] (defScope s_walk) := ⟨rfl, rfl, rfl, by decide +kernel, rfl, by decide +kernel, by decide +kernel⟩

abbrev s_back_and_forth : Stmt := topS 77
abbrev N_back_and_forth : List Str := ["shelf", "found", "at"]
theorem sc_back_and_forth : FnScope N_back_and_forth ["shelf", "found"] (defScope s_back_and_forth) := ⟨rfl, rfl, rfl, by decide +kernel, rfl, by decide +kernel, by decide +kernel⟩

abbrev s_others_right : Stmt := topS 78
abbrev N_others_right : List Str := ["reel", "plan", "shelf", "rows", "made", "other", "name", "text", "spot", "told", "wider", "one"]
theorem sc_others_right : FnScope N_others_right ["reel", "plan", "shelf", "rows"] (defScope s_others_right) := ⟨rfl, rfl, rfl, by decide +kernel, rfl, by decide +kernel, by decide +kernel⟩

abbrev s_law : Stmt := topS 79
abbrev N_law : List Str := ["script", "at", "reel", "plan", "shelf", "sums", "found", "amounts"]
theorem sc_law : FnScope N_law ["script"] (defScope s_law) := ⟨rfl, rfl, rfl, by decide +kernel, rfl, by decide +kernel, by decide +kernel⟩

abbrev s_p_Book___init__ : Stmt := inClass (topS 35) 0
abbrev N_p_Book___init__ : List Str := ["self", "prices", "piece"]
theorem sc_p_Book___init__ : FnScope N_p_Book___init__ ["self", "prices"] (defScope s_p_Book___init__) := ⟨rfl, rfl, rfl, by decide +kernel, rfl, by decide +kernel, by decide +kernel⟩

abbrev s_p_Book_accepts : Stmt := inClass (topS 35) 7
abbrev N_p_Book_accepts : List Str := ["self", "value"]
theorem sc_p_Book_accepts : FnScope N_p_Book_accepts ["self", "value"] (defScope s_p_Book_accepts) := ⟨rfl, rfl, rfl, by decide +kernel, rfl, by decide +kernel, by decide +kernel⟩

abbrev s_p_Book___eq__ : Stmt := inClass (topS 35) 17
abbrev N_p_Book___eq__ : List Str := ["self", "other"]
theorem sc_p_Book___eq__ : FnScope N_p_Book___eq__ ["self", "other"] (defScope s_p_Book___eq__) := ⟨rfl, rfl, rfl, by decide +kernel, rfl, by decide +kernel, by decide +kernel⟩

abbrev s_p_Cutter___init__ : Stmt := inClass (topS 46) 0
abbrev N_p_Cutter___init__ : List Str := ["self", "book", "order", "view", "table", "ends", "text"]
theorem sc_p_Cutter___init__ : FnScope N_p_Cutter___init__ ["self", "book", "order", "view", "table", "ends"] (defScope s_p_Cutter___init__) := ⟨rfl, rfl, rfl, by decide +kernel, rfl, by decide +kernel, by decide +kernel⟩

abbrev s_p_Cutter_told_by : Stmt := inClass (topS 46) 8
abbrev N_p_Cutter_told_by : List Str := ["self", "window", "is_ended", "size", "piece"]
theorem sc_p_Cutter_told_by : FnScope N_p_Cutter_told_by ["self", "window", "is_ended"] (defScope s_p_Cutter_told_by) := ⟨rfl, rfl, rfl, by decide +kernel, rfl, by decide +kernel, by decide +kernel⟩

abbrev s_p_Cutter_cut_in : Stmt := inClass (topS 46) 9
abbrev N_p_Cutter_cut_in : List Str := ["self", "text", "found", "at", "window"]
theorem sc_p_Cutter_cut_in : FnScope N_p_Cutter_cut_in ["self", "text"] (defScope s_p_Cutter_cut_in) := ⟨rfl, rfl, rfl, by decide +kernel, rfl, by decide +kernel, by decide +kernel⟩

abbrev s_p_Cutter_price_in : Stmt := inClass (topS 46) 10
abbrev N_p_Cutter_price_in : List Str := ["self", "text", "piece"]
theorem sc_p_Cutter_price_in : FnScope N_p_Cutter_price_in ["self", "text"] (defScope s_p_Cutter_price_in) := ⟨rfl, rfl, rfl, by decide +kernel, rfl, by decide +kernel, by decide +kernel⟩

abbrev s_p_Cutter_cut : Stmt := inClass (topS 46) 12
abbrev N_p_Cutter_cut : List Str := ["self", "text"]
theorem sc_p_Cutter_cut : FnScope N_p_Cutter_cut ["self", "text"] (defScope s_p_Cutter_cut) := ⟨rfl, rfl, rfl, by decide +kernel, rfl, by decide +kernel, by decide +kernel⟩

abbrev s_p_Cutter_behind : Stmt := inClass (topS 46) 15
abbrev N_p_Cutter_behind : List Str := ["self", "text"]
theorem sc_p_Cutter_behind : FnScope N_p_Cutter_behind ["self", "text"] (defScope s_p_Cutter_behind) := ⟨rfl, rfl, rfl, by decide +kernel, rfl, by decide +kernel, by decide +kernel⟩

abbrev s_p_Cutter___eq__ : Stmt := inClass (topS 46) 20
abbrev N_p_Cutter___eq__ : List Str := ["self", "value"]
theorem sc_p_Cutter___eq__ : FnScope N_p_Cutter___eq__ ["self", "value"] (defScope s_p_Cutter___eq__) := ⟨rfl, rfl, rfl, by decide +kernel, rfl, by decide +kernel, by decide +kernel⟩

abbrev s_p_Shelf___init__ : Stmt := inClass (topS 58) 0
abbrev N_p_Shelf___init__ : List Str := ["self", "cutter", "texts", "name", "text", "prices"]
theorem sc_p_Shelf___init__ : FnScope N_p_Shelf___init__ ["self", "cutter", "texts"] (defScope s_p_Shelf___init__) := ⟨rfl, rfl, rfl, by decide +kernel, rfl, by decide +kernel, by decide +kernel⟩

abbrev s_p_Shelf_require_near : Stmt := inClass (topS 58) 6
abbrev N_p_Shelf_require_near : List Str := ["self", "text"]
theorem sc_p_Shelf_require_near : FnScope N_p_Shelf_require_near ["self", "text"] (defScope s_p_Shelf_require_near) := ⟨rfl, rfl, rfl, by decide +kernel, rfl, by decide +kernel, by decide +kernel⟩

abbrev s_p_Shelf_most_behind : Stmt := inClass (topS 58) 7
abbrev N_p_Shelf_most_behind : List Str := ["self"]
theorem sc_p_Shelf_most_behind : FnScope N_p_Shelf_most_behind ["self"] (defScope s_p_Shelf_most_behind) := ⟨rfl, rfl, rfl, by decide +kernel, rfl, by decide +kernel, by decide +kernel⟩

abbrev s_p_Shelf_require_known : Stmt := inClass (topS 58) 8
abbrev N_p_Shelf_require_known : List Str := ["self", "name"]
theorem sc_p_Shelf_require_known : FnScope N_p_Shelf_require_known ["self", "name"] (defScope s_p_Shelf_require_known) := ⟨rfl, rfl, rfl, by decide +kernel, rfl, by decide +kernel, by decide +kernel⟩

abbrev s_p_Shelf_require_no_block : Stmt := inClass (topS 58) 9
abbrev N_p_Shelf_require_no_block : List Str := ["self"]
theorem sc_p_Shelf_require_no_block : FnScope N_p_Shelf_require_no_block ["self"] (defScope s_p_Shelf_require_no_block) := ⟨rfl, rfl, rfl, by decide +kernel, rfl, by decide +kernel, by decide +kernel⟩

abbrev s_p_Shelf_weigh : Stmt := inClass (topS 58) 10
abbrev N_p_Shelf_weigh : List Str := ["self", "text"]
theorem sc_p_Shelf_weigh : FnScope N_p_Shelf_weigh ["self", "text"] (defScope s_p_Shelf_weigh) := ⟨rfl, rfl, rfl, by decide +kernel, rfl, by decide +kernel, by decide +kernel⟩

abbrev s_p_Shelf_move : Stmt := inClass (topS 58) 11
abbrev N_p_Shelf_move : List Str := ["self", "name", "before", "after", "old", "new", "texts", "call", "one", "text"]
theorem sc_p_Shelf_move : FnScope N_p_Shelf_move ["self", "name", "before", "after"] (defScope s_p_Shelf_move) := ⟨rfl, rfl, rfl, by decide +kernel, rfl, by decide +kernel, by decide +kernel⟩

abbrev s_p_Shelf_change : Stmt := inClass (topS 58) 12
abbrev N_p_Shelf_change : List Str := ["self", "name", "after", "before"]
theorem sc_p_Shelf_change : FnScope N_p_Shelf_change ["self", "name", "after"] (defScope s_p_Shelf_change) := ⟨rfl, rfl, rfl, by decide +kernel, rfl, by decide +kernel, by decide +kernel⟩

abbrev s_p_Shelf_put : Stmt := inClass (topS 58) 13
abbrev N_p_Shelf_put : List Str := ["self", "name", "text"]
theorem sc_p_Shelf_put : FnScope N_p_Shelf_put ["self", "name", "text"] (defScope s_p_Shelf_put) := ⟨rfl, rfl, rfl, by decide +kernel, rfl, by decide +kernel, by decide +kernel⟩

abbrev s_p_Shelf_drop : Stmt := inClass (topS 58) 14
abbrev N_p_Shelf_drop : List Str := ["self", "name"]
theorem sc_p_Shelf_drop : FnScope N_p_Shelf_drop ["self", "name"] (defScope s_p_Shelf_drop) := ⟨rfl, rfl, rfl, by decide +kernel, rfl, by decide +kernel, by decide +kernel⟩

abbrev s_p_Shelf_edit : Stmt := inClass (topS 58) 15
abbrev N_p_Shelf_edit : List Str := ["self", "name", "start", "stop", "signs", "text", "told", "later"]
theorem sc_p_Shelf_edit : FnScope N_p_Shelf_edit ["self", "name", "start", "stop", "signs"] (defScope s_p_Shelf_edit) := ⟨rfl, rfl, rfl, by decide +kernel, rfl, by decide +kernel, by decide +kernel⟩

abbrev s_p_Shelf_watch : Stmt := inClass (topS 58) 19
abbrev N_p_Shelf_watch : List Str := ["self", "call"]
theorem sc_p_Shelf_watch : FnScope N_p_Shelf_watch ["self", "call"] (defScope s_p_Shelf_watch) := ⟨rfl, rfl, rfl, by decide +kernel, rfl, by decide +kernel, by decide +kernel⟩

abbrev s_p_Shelf_undo : Stmt := inClass (topS 58) 21
abbrev N_p_Shelf_undo : List Str := ["self", "many", "turn", "entry", "name", "before", "after"]
theorem sc_p_Shelf_undo : FnScope N_p_Shelf_undo ["self", "many"] (defScope s_p_Shelf_undo) := ⟨rfl, rfl, rfl, by decide +kernel, rfl, by decide +kernel, by decide +kernel⟩

abbrev s_p_Shelf_redo : Stmt := inClass (topS 58) 22
abbrev N_p_Shelf_redo : List Str := ["self", "many", "turn", "entry", "name", "before", "after"]
theorem sc_p_Shelf_redo : FnScope N_p_Shelf_redo ["self", "many"] (defScope s_p_Shelf_redo) := ⟨rfl, rfl, rfl, by decide +kernel, rfl, by decide +kernel, by decide +kernel⟩

abbrev s_p_Shelf___eq__ : Stmt := inClass (topS 58) 30
abbrev N_p_Shelf___eq__ : List Str := ["self", "value"]
theorem sc_p_Shelf___eq__ : FnScope N_p_Shelf___eq__ ["self", "value"] (defScope s_p_Shelf___eq__) := ⟨rfl, rfl, rfl, by decide +kernel, rfl, by decide +kernel, by decide +kernel⟩

abbrev s_p_Shelf___len__ : Stmt := inClass (topS 58) 29
abbrev N_p_Shelf___len__ : List Str := ["self"]
theorem sc_p_Shelf___len__ : FnScope N_p_Shelf___len__ ["self"] (defScope s_p_Shelf___len__) := ⟨rfl, rfl, rfl, by decide +kernel, rfl, by decide +kernel, by decide +kernel⟩

abbrev s_p_Shelf___str__ : Stmt := inClass (topS 58) 31
abbrev N_p_Shelf___str__ : List Str := ["self"]
theorem sc_p_Shelf___str__ : FnScope N_p_Shelf___str__ ["self"] (defScope s_p_Shelf___str__) := ⟨rfl, rfl, rfl, by decide +kernel, rfl, by decide +kernel, by decide +kernel⟩

abbrev s_p_Shelf_names : Stmt := inClass (topS 58) 2
abbrev N_p_Shelf_names : List Str := ["self"]
theorem sc_p_Shelf_names : FnScope N_p_Shelf_names ["self"] (defScope s_p_Shelf_names) := ⟨rfl, rfl, rfl, by decide +kernel, rfl, by decide +kernel, by decide +kernel⟩

abbrev s_p_Shelf_texts : Stmt := inClass (topS 58) 3
abbrev N_p_Shelf_texts : List Str := ["self", "name", "text"]
theorem sc_p_Shelf_texts : FnScope N_p_Shelf_texts ["self"] (defScope s_p_Shelf_texts) := ⟨rfl, rfl, rfl, by decide +kernel, rfl, by decide +kernel, by decide +kernel⟩

abbrev s_p_Shelf_total : Stmt := inClass (topS 58) 4
abbrev N_p_Shelf_total : List Str := ["self"]
theorem sc_p_Shelf_total : FnScope N_p_Shelf_total ["self"] (defScope s_p_Shelf_total) := ⟨rfl, rfl, rfl, by decide +kernel, rfl, by decide +kernel, by decide +kernel⟩

abbrev s_p_Shelf_lag : Stmt := inClass (topS 58) 5
abbrev N_p_Shelf_lag : List Str := ["self"]
theorem sc_p_Shelf_lag : FnScope N_p_Shelf_lag ["self"] (defScope s_p_Shelf_lag) := ⟨rfl, rfl, rfl, by decide +kernel, rfl, by decide +kernel, by decide +kernel⟩

/-- what the walk asks of the top: CB Book, CC Cutter, CF Shelf -/
structure Tx (K : PySem.W.Frag) (mg : Str → Option Value) (CB CC CF : Addr) : Prop where
  n_int : mg "int" = none
  n_len : mg "len" = none
  n_abs : mg "abs" = none
  n_max : mg "max" = none
  n_min : mg "min" = none
  n_sum : mg "sum" = none
  n_all : mg "all" = none
  n_list : mg "list" = none
  n_tuple : mg "tuple" = none
  n_dict : mg "dict" = none
  n_sorted : mg "sorted" = none
  n_range : mg "range" = none
  n_isinstance : mg "isinstance" = none
  n_bool : mg "bool" = none
  n_str : mg "str" = none
  n_zip : mg "zip" = none
  g_TEXT_SIGNS : ∃ t, mg "TEXT_SIGNS" = some (.int 8000 t)
  g_PIECE_SIGNS : ∃ t, mg "PIECE_SIGNS" = some (.int 5 t)
  g_MAX_SIGNS : ∃ t, mg "MAX_SIGNS" = some (.int 8000 t)
  g_MAX_PIECES : ∃ t, mg "MAX_PIECES" = some (.int 12 t)
  g_MAX_ALPHABET : ∃ t, mg "MAX_ALPHABET" = some (.int 4 t)
  g_MAX_PRICE : ∃ t, mg "MAX_PRICE" = some (.int 99 t)
  g_MAX_VIEW : ∃ t, mg "MAX_VIEW" = some (.int 2000 t)
  g_MAX_WINDOWS : ∃ t, mg "MAX_WINDOWS" = some (.int 2000 t)
  g_MAX_TEXTS : ∃ t, mg "MAX_TEXTS" = some (.int 50 t)
  g_MAX_NAME : ∃ t, mg "MAX_NAME" = some (.int 8 t)
  d_p_is_integer : DefF K mg "is_integer" s_p_is_integer
  d_p_is_integer_within : DefF K mg "is_integer_within" s_p_is_integer_within
  d_p_is_word : DefF K mg "is_word" s_p_is_word
  d_p_is_text : DefF K mg "is_text" s_p_is_text
  d_p_is_piece : DefF K mg "is_piece" s_p_is_piece
  d_p_is_price : DefF K mg "is_price" s_p_is_price
  d_p_are_prices : DefF K mg "are_prices" s_p_are_prices
  d_p_is_text_over : DefF K mg "is_text_over" s_p_is_text_over
  d_p_require_book : DefF K mg "require_book" s_p_require_book
  d_p_require_text : DefF K mg "require_text" s_p_require_text
  d_p_prices_along : DefF K mg "prices_along" s_p_prices_along
  d_p_cheapest_price_in : DefF K mg "cheapest_price_in" s_p_cheapest_price_in
  d_p_is_order : DefF K mg "is_order" s_p_is_order
  d_p_is_view : DefF K mg "is_view" s_p_is_view
  d_p_is_table : DefF K mg "is_table" s_p_is_table
  d_p_require_cutter : DefF K mg "require_cutter" s_p_require_cutter
  d_p_shared_start : DefF K mg "shared_start" s_p_shared_start
  d_p_cuts_compared : DefF K mg "cuts_compared" s_p_cuts_compared
  d_p_recut : DefF K mg "recut" s_p_recut
  d_p_is_name : DefF K mg "is_name" s_p_is_name
  d_p_require_call : DefF K mg "require_call" s_p_require_call
  d_p_require_many : DefF K mg "require_many" s_p_require_many
  d_reel : DefF K mg "_law_reel" s_reel
  d_spin : DefF K mg "_law_spin" s_spin
  d_pick : DefF K mg "_law_pick" s_pick
  d_some : DefF K mg "_law_some" s_some
  d_text : DefF K mg "_law_text" s_text
  d_signs : DefF K mg "_law_signs" s_signs
  d_prices : DefF K mg "_law_prices" s_prices
  d_plan : DefF K mg "_law_plan" s_plan
  d_cutter : DefF K mg "_law_cutter" s_cutter
  d_tell : DefF K mg "_law_tell" s_tell
  d_cut : DefF K mg "_law_cut" s_cut
  d_price : DefF K mg "_law_price" s_price
  d_alphabet : DefF K mg "_law_alphabet" s_alphabet
  d_name : DefF K mg "_law_name" s_name
  d_shelf_plan : DefF K mg "_law_shelf_plan" s_shelf_plan
  d_span : DefF K mg "_law_span" s_span
  d_walk : DefF K mg "_law_walk" s_walk
  d_back_and_forth : DefF K mg "_law_back_and_forth" s_back_and_forth
  d_others_right : DefF K mg "_law_others_right" s_others_right
  d_law : DefF K mg "law" s_law
  g_Book : mg "Book" = some (.ref CB)
  cl_Book : Cls K CB
  no_Book_own_prices : NoAttr K CB "own_prices"
  no_Book_own_pieces : NoAttr K CB "own_pieces"
  no_Book_own_alphabet : NoAttr K CB "own_alphabet"
  no_Book_own_longest : NoAttr K CB "own_longest"
  no_Book_own_dearest : NoAttr K CB "own_dearest"
  m_Book_accepts : MethF K CB "accepts" "Book.accepts" s_p_Book_accepts
  g_Cutter : mg "Cutter" = some (.ref CC)
  cl_Cutter : Cls K CC
  no_Cutter_own_book : NoAttr K CC "own_book"
  no_Cutter_own_order : NoAttr K CC "own_order"
  no_Cutter_own_view : NoAttr K CC "own_view"
  no_Cutter_own_table : NoAttr K CC "own_table"
  no_Cutter_own_ends : NoAttr K CC "own_ends"
  no_Cutter_own_sizes : NoAttr K CC "own_sizes"
  m_Cutter_told_by : MethF K CC "told_by" "Cutter.told_by" s_p_Cutter_told_by
  m_Cutter_cut_in : MethF K CC "cut_in" "Cutter.cut_in" s_p_Cutter_cut_in
  m_Cutter_price_in : MethF K CC "price_in" "Cutter.price_in" s_p_Cutter_price_in
  m_Cutter_cut : MethF K CC "cut" "Cutter.cut" s_p_Cutter_cut
  m_Cutter_behind : MethF K CC "behind" "Cutter.behind" s_p_Cutter_behind
  g_Shelf : mg "Shelf" = some (.ref CF)
  cl_Shelf : Cls K CF
  no_Shelf_own_cutter : NoAttr K CF "own_cutter"
  no_Shelf_own_texts : NoAttr K CF "own_texts"
  no_Shelf_own_sums : NoAttr K CF "own_sums"
  no_Shelf_own_done : NoAttr K CF "own_done"
  no_Shelf_own_undone : NoAttr K CF "own_undone"
  no_Shelf_own_block : NoAttr K CF "own_block"
  no_Shelf_own_entry : NoAttr K CF "own_entry"
  no_Shelf_own_watchers : NoAttr K CF "own_watchers"
  m_Shelf_require_near : MethF K CF "require_near" "Shelf.require_near" s_p_Shelf_require_near
  m_Shelf_most_behind : MethF K CF "most_behind" "Shelf.most_behind" s_p_Shelf_most_behind
  m_Shelf_require_known : MethF K CF "require_known" "Shelf.require_known" s_p_Shelf_require_known
  m_Shelf_require_no_block : MethF K CF "require_no_block" "Shelf.require_no_block" s_p_Shelf_require_no_block
  m_Shelf_weigh : MethF K CF "weigh" "Shelf.weigh" s_p_Shelf_weigh
  m_Shelf_move : MethF K CF "move" "Shelf.move" s_p_Shelf_move
  m_Shelf_change : MethF K CF "change" "Shelf.change" s_p_Shelf_change
  m_Shelf_put : MethF K CF "put" "Shelf.put" s_p_Shelf_put
  m_Shelf_drop : MethF K CF "drop" "Shelf.drop" s_p_Shelf_drop
  m_Shelf_edit : MethF K CF "edit" "Shelf.edit" s_p_Shelf_edit
  m_Shelf_watch : MethF K CF "watch" "Shelf.watch" s_p_Shelf_watch
end K75
-- part D1
set_option Elab.async false
set_option linter.all false
set_option maxRecDepth 100000
set_option maxHeartbeats 4000000
namespace K75
open PySem PySem.Spec PyProof.Rows L2
/-! helps -/
theorem sqL_upd {K : PySem.W.Frag} {H : Hp} {p r : Addr} {o : HO} {xs : List V} (h : SqL K H p xs) (ne : p ≠ r) : SqL K (upd H r o) p xs := by
  rcases h with (h | ⟨u, h⟩) | h
  · exact .inl (.inl (by rw [upd_ne ne]; exact h))
  · exact .inl (.inr ⟨u, by rw [upd_ne ne]; exact h⟩)
  · exact .inr h
theorem sqT_upd {K : PySem.W.Frag} {H : Hp} {p r : Addr} {o : HO} {xs : List V} (h : SqT K H p xs) (ne : p ≠ r) : SqT K (upd H r o) p xs := by
  rcases h with (h | ⟨u, h⟩) | h
  · exact .inl (.inl (by rw [upd_ne ne]; exact h))
  · exact .inl (.inr ⟨u, by rw [upd_ne ne]; exact h⟩)
  · exact .inr h
theorem reel_upd {H : Hp} {r p : Addr} {o : HO} (h : Reel H r) (ne : r ≠ p) : Reel (upd H p o) r := by
  obtain ⟨a, b, c, e⟩ := h
  exact ⟨a, b, c, by rw [upd_ne ne]; exact e⟩
theorem reel_same {H : Hp} {r : Addr} (a b c : Int) : Reel (upd H r (.lst [.int a, .int b, .int c])) r := ⟨a, b, c, upd_same⟩
/-- powers of great numbers -/
def CPowW (i j : Int) : Prop := 0 ≤ j ∧ (Builtin.Int.intBits i : Int) * j ≤ 2 ^ 27
theorem op_powW {X : Cx} : OpR X (binaryOp .Pow) (rI CPowW fun i j => .int (i ^ j.toNat)) := opI fun _ _ _ _ _ _ _ hc q => pow_int hc.1 hc.2 q
section
variable {P : Program} {w : World} {K : PySem.W.Frag} {mg : Str → Option Value} {base : Heap} {CB CC CF : Addr}
/-! ### a number below a total -/
def sp_spin : Sp := fun vs H Q _ => ∃ (r : Addr) (n : Int), vs = [.ref r, .int n] ∧ Reel H r ∧ 0 < n ∧ n < 1000000 ∧
  ∀ (v a b c : Int), 0 ≤ v → v < n → Q (.int v) (upd H r (.lst [.int a, .int b, .int c]))
theorem c_spin (T : Tx K mg CB CC CF) : C8.Cal P w K mg base 1 "_law_spin" sp_spin [] := by
  refine cal_of T.d_spin sc_spin (fun _ _ _ _ _ _ us hl => match us, hl with | [_, _], _ => rfl) (fun vs H Q E h => ?_) (fun cdv A outer f s H vs Q E hr h => ?_)
  · obtain ⟨r, n, rfl, _⟩ := h
    rfl
  · obtain ⟨r, n, rfl, ⟨a, b, c, hR⟩, h0, h1, k⟩ := h
    have L := SqL.of (K := K) hR
    refine ⟨_, (pss_cons (ps_if (pt_cmpR op_gt (pe_ix ix_list (pv 0) pe_int (fun _ _ => rfl)) pe_int (nomark _))
    (pss_cons (ps_set (i := 2) sc_spin.nd rfl (Or.inl rfl) (pe_op op_mod (pe_callTy call_int1 (by rfl) T.n_int (by decide +kernel) (pa_cons (pe_ix ix_list (pv 0) pe_int (fun _ _ => rfl)) pa_nil)) (pv 1)))
    (pss_cons (ps_asg (pe_op op_fdivN (pe_ix ix_list (pv 0) pe_int (fun _ _ => rfl)) (pv 1)) (pg_sub (pv 0) pe_int set_list))
    (pss_one (ps_ret (pv 2)))))
    pss_nil)
  (pss_cons (ps_asg (pe_op op_add (pe_ix ix_list (pv 0) pe_int (fun _ _ => rfl)) pe_int) (pg_sub (pv 0) pe_int set_list))
  (pss_cons (ps_set (i := 3) sc_spin.nd rfl (Or.inl rfl) (pe_op op_mod (pe_callTy call_int1 (by rfl) T.n_int (by decide +kernel) (pa_cons (pe_op op_add (pe_ix ix_list (pv 0) pe_int (fun _ _ => rfl)) (pe_op op_mul pe_int (pe_ix ix_list (pv 0) pe_int (fun _ _ => rfl)))) pa_nil)) pe_int))
  (pss_cons (ps_set (i := 4) sc_spin.nd rfl (Or.inl rfl) (pe_op op_add (pe_op op_mul (pe_op op_mod (pe_callTy call_int1 (by rfl) T.n_int (by decide +kernel) (pa_cons (pe_op op_mul (pv 3) (pv 3)) pa_nil)) pe_int) (pv 3)) (pe_op op_mul pe_int (pe_ix ix_list (pv 0) pe_int (fun _ _ => rfl)))))
  (pss_one (ps_ret (pe_op op_mod (pe_callTy call_int1 (by rfl) T.n_int (by decide +kernel) (pa_cons (pe_op op_fdiv (pe_op op_mod (pe_callTy call_int1 (by rfl) T.n_int (by decide +kernel) (pa_cons (pe_op op_add (pv 4) (pe_ix ix_list (pv 0) pe_int (fun _ _ => rfl))) pa_nil)) pe_int) pe_int) pa_nil)) (pv 1)))))))), ?_⟩
    refine ⟨_, rfl, _, _, _, _, rfl, rfl, L, rfl, _, _, rfl, rfl, _, rfl, ite2 (fun hc => ?_) (fun hc => ?_)⟩
    · refine ⟨_, rfl, _, _, _, _, rfl, rfl, L, rfl, .inl ⟨_, rfl, _, rfl, _, _, rfl, rfl, h0, ?_⟩⟩
      refine ⟨_, rfl, _, _, _, _, rfl, rfl, L, rfl, _, rfl, _, _, rfl, rfl, ⟨by omega, by omega⟩, _, rfl, _, _, _, _, rfl, rfl, hR, rfl, _, rfl, ?_⟩
      exact k _ _ _ _ (Int.emod_nonneg _ (by omega)) (Int.emod_lt_of_pos _ h0)
    · have L2 : SqL K (upd H r (.lst [.int a, .int b, .int (c + 1)])) r [.int a, .int b, .int (c + 1)] := SqL.of upd_same
      refine ⟨_, rfl, _, _, _, _, rfl, rfl, L, rfl, _, _, rfl, rfl, _, rfl, _, _, _, _, rfl, rfl, hR, rfl, ?_⟩
      refine ⟨_, rfl, _, _, _, _, rfl, rfl, L2, rfl, _, rfl, _, _, _, _, rfl, rfl, L2, rfl, _, _, rfl, rfl, .inl ⟨by decide, by decide⟩, _, _, rfl, rfl, .inl ⟨_, rfl, _, _, rfl, rfl, (by show (0 : Int) < 2305843009213693951; decide), ?_⟩⟩
      have o1 : -(2 ^ 64) < (b + 982451653 * (c + 1)) % 2305843009213693951 := by omega
      have o2 : (b + 982451653 * (c + 1)) % 2305843009213693951 < 2 ^ 64 := by omega
      refine ⟨_, rfl, _, rfl, _, _, rfl, rfl, .inl ⟨o1, o2⟩, .inl ⟨_, rfl, _, _, rfl, rfl, (by show (0 : Int) < 1152921504606846899; decide), _, rfl, _, _, rfl, rfl, .inr ⟨o1, o2⟩, ?_⟩⟩
      refine ⟨_, rfl, _, _, _, _, rfl, rfl, L2, rfl, _, _, rfl, rfl, .inl ⟨by decide, by decide⟩, _, _, rfl, rfl, ?_⟩
      refine ⟨_, rfl, _, rfl, _, _, _, _, rfl, rfl, L2, rfl, _, _, rfl, rfl, .inl ⟨_, rfl, _, _, rfl, rfl, (by show (0 : Int) < 4398046511119; decide), _, _, rfl, rfl, ⟨by decide, by decide⟩, .inl ⟨_, rfl, _, rfl, _, _, rfl, rfl, h0, ?_⟩⟩⟩
      exact k _ _ _ _ (Int.emod_nonneg _ (by omega)) (Int.emod_lt_of_pos _ h0)
/-! ### the reel of one turn -/
def sp_reel (K : PySem.W.Frag) : Sp := fun vs H Q _ => ∃ (a : Addr) (ns : List Int) (i : Nat), vs = [.ref a, .int i] ∧ SqL K H a (ns.map V.int) ∧ i ≤ 1000 ∧
  ∀ (p : Addr) (x y z : Int), H p = none → Q (.ref p) (upd H p (.lst [.int x, .int y, .int z]))
theorem c_reel (T : Tx K mg CB CC CF) : C8.Cal P w K mg base 1 "_law_reel" (sp_reel K) [] := by
  refine cal_of T.d_reel sc_reel (fun _ _ _ _ _ _ us hl => match us, hl with | [_, _], _ => rfl) (fun vs H Q E h => ?_) (fun cdv A outer f s H vs Q E hr h => ?_)
  · obtain ⟨r, n, i, rfl, _⟩ := h
    rfl
  · obtain ⟨a, ns, i, rfl, L, hi, k⟩ := h
    refine ⟨_, (C8.pss_cut (ps_set (i := 2) sc_reel.nd rfl (Or.inl rfl) (pe_ifExp (pt_cmpR op_lt (pv 1) (pe_callB call_len_seq (by rfl) T.n_len (by decide +kernel) (pa_cons (pv 0) pa_nil)) (nomark _)) (pe_ix ix_list (pv 0) (pv 1) (fun _ _ => rfl)) (pe_op op_add (pe_op op_mul pe_int (pv 1)) pe_int)))
  (pss_cons (ps_set (i := 3) sc_reel.nd rfl (Or.inl rfl) (pe_op op_mod (pe_callTy call_int1 (by rfl) T.n_int (by decide +kernel) (pa_cons (pe_callB call_abs (by rfl) T.n_abs (by decide +kernel) (pa_cons (pv 2) pa_nil)) pa_nil)) (pe_op op_powW (pe_op op_pow pe_int pe_int) pe_int)))
  (pss_cons (ps_set (i := 4) sc_reel.nd rfl (Or.inl rfl) (pe_op op_add (pe_op op_add (pe_op op_add (pe_op op_mul (pv 3) pe_int) (pe_op op_mul pe_int (pv 1))) (pe_op op_mul pe_int (pe_callTy call_int1 (by rfl) T.n_int (by decide +kernel) (pa_cons (pe_cmpR op_lt (pv 2) pe_int (nomark _)) pa_nil)))) pe_int))
  (pss_one (ps_ret (pe_lst (pa_cons (pe_callB (call_max2 rfl) (by rfl) T.n_max (by decide +kernel) (pa_cons pe_int (pa_cons (pe_op op_sub (pv 3) (pe_op op_pow pe_int pe_int)) pa_nil))) (pa_cons (pe_op op_mod (pe_callTy call_int1 (by rfl) T.n_int (by decide +kernel) (pa_cons (pv 4) pa_nil)) pe_int) (pa_cons pe_int pa_nil))))))))), ?_⟩
    refine ⟨fun σ' H' => ∃ c : Int, σ' = [some (.ref a), some (.int (i : Int)), some (.int c), none, none] ∧ H' = H, ?_, ?_⟩
    · refine ⟨_, rfl, _, rfl, _, _, rfl, .inl L, _, _, rfl, rfl, _, rfl, ite2 (fun hc => ?_) (fun hc => ?_)⟩
      · have hlt : i < ns.length := by
          have := of_decide_eq_true hc
          simp only [List.length_map] at this
          omega
        exact ⟨_, rfl, _, rfl, _, _, _, V.int ns[i], rfl, rfl, L, atI_nat (by simp [hlt]), _, rfl, rfl⟩
      · exact ⟨_, rfl, _, _, rfl, rfl, .inl ⟨by decide, by decide⟩, _, _, rfl, rfl, _, rfl, rfl⟩
    · rintro σ' H' ⟨c, rfl, rfl⟩
      refine ⟨_, rfl, _, rfl, .inl ⟨_, rfl, _, _, rfl, rfl, ⟨by decide, by decide, by decide⟩, _, _, rfl, rfl, ⟨by decide, by decide +kernel⟩, _, _, rfl, rfl, (by show (0 : Int) < (10 ^ Int.toNat 58) ^ Int.toNat 10; decide +kernel), ?_⟩⟩
      refine ⟨_, rfl, _, _, rfl, rfl, .inr ⟨by decide, by decide⟩, _, rfl, _, _, rfl, rfl, .inl ⟨by decide, by decide⟩, _, _, rfl, rfl, _, rfl, _, _, rfl, rfl, .inr ⟨_, rfl, _, _, rfl, rfl, .inl ⟨by decide, by decide⟩, _, _, rfl, rfl, _, _, rfl, rfl, ?_⟩⟩
      refine ⟨_, rfl, _, _, rfl, rfl, ⟨by decide, by decide, by decide⟩, _, _, rfl, rfl, _, _, rfl, _, rfl, .inl ⟨_, rfl, _, _, rfl, rfl, (by show (0 : Int) < 2305843009213693973; decide), (by show 3 ≤ sizeLine; decide), fun p np => ?_⟩⟩
      exact k p _ _ _ np
/-! ### one of the items -/
end
end K75
-- part D2
set_option Elab.async false
set_option linter.all false
set_option maxRecDepth 100000
set_option maxHeartbeats 4000000
namespace K75
open PySem PySem.Spec PyProof.Rows L2
/-! texts -/
abbrev Tx0 := List Nat
/-- a text of small letters -/
def Lt (t : Tx0) : Prop := ∀ c ∈ t, 97 ≤ c ∧ c ≤ 122
abbrev tv (t : Tx0) : V := .str (SX.S t)
theorem lt_ok {t : Tx0} (h : Lt t) : PyData.strOk (SX.S t) = true := by
  unfold PyData.strOk
  rw [← Array.all_toList, List.all_eq_true]
  intro c hc
  have := h c hc
  simp only [Bool.and_eq_true, Bool.or_eq_true, decide_eq_true_eq, Bool.not_eq_true', decide_eq_false_iff_not]
  omega
/-- a text, or a pair of a text and a number -/
def Itm (H : Hp) (x : V) : Prop := (∃ t, x = tv t ∧ Lt t) ∨ ∃ a t n, x = .ref a ∧ H a = some (.tup [tv t, .int n]) ∧ Lt t
theorem itm_one {K : PySem.W.Frag} {H : Hp} {x : V} (h : Itm H x) : ∃ d, Dp K H x d ∧ d.canLay0 = true ∧ d.depth ≤ 1 := by
  rcases h with ⟨t, rfl, hl⟩ | ⟨a, t, n, rfl, ha, hl⟩
  · exact ⟨.str (SX.S t), .str _, by simp only [PyData.canLay0]; exact lt_ok hl, by simp [PyData.depth]⟩
  · exact ⟨.tuple [.str (SX.S t), .int n], .tup (SqT.of ha) (.cons (.str _) (.cons (.int _) .nil)), by simp only [PyData.canLay0, PyData.canLayAll0, lt_ok hl, Bool.and_true], by simp [PyData.depth, PyData.depthAll]⟩
theorem itm_all {K : PySem.W.Frag} {H : Hp} : ∀ {xs : List V}, (∀ x ∈ xs, Itm H x) → ∃ ds, DpAll K H xs ds ∧ ds.length = xs.length ∧ PyData.canLayAll0 ds = true ∧ PyData.depthAll ds ≤ 1
  | [], _ => ⟨[], .nil, rfl, by simp only [PyData.canLayAll0], by simp [PyData.depthAll]⟩
  | x :: xs, h => by
    obtain ⟨d, h1, h2, h3⟩ := itm_one (K := K) (h x (List.mem_cons_self ..))
    obtain ⟨ds, g1, g2, g3, g4⟩ := itm_all (K := K) fun y hy => h y (List.mem_cons_of_mem _ hy)
    exact ⟨d :: ds, .cons h1 g1, by rw [List.length_cons, List.length_cons, g2], by simp only [PyData.canLayAll0, h2, g3, Bool.and_true], by simp only [PyData.depthAll]; omega⟩
theorem eqv_nil (ds : List PyData) : PyData.eqv (.list ds) (.list []) = decide (ds = []) := by
  cases ds with
  | nil => rfl
  | cons d ds => rfl
theorem shaped_list {ds : List PyData} (h : PyData.canLayAll0 ds = true) (h2 : PyData.depthAll ds ≤ 60) : SeqAt.shaped (.list ds) = true := by
  unfold SeqAt.shaped
  exact Bool.and_eq_true_iff.mpr ⟨by simp only [PyData.canLay0, h], decide_eq_true (by simp only [PyData.depth]; omega)⟩
theorem perm_erase {α : Type} : ∀ {l : List α} {j : Nat} (h : j < l.length), ([l[j]] ++ l.eraseIdx j).Perm l
  | [], _, h => absurd h (Nat.not_lt_zero _)
  | a :: l, 0, _ => List.Perm.refl _
  | a :: l, j + 1, h => by
    have hj : j < l.length := Nat.lt_of_succ_lt_succ h
    have ih := perm_erase hj
    show (l[j] :: a :: l.eraseIdx j).Perm (a :: l)
    exact (List.Perm.swap a l[j] _).trans (List.Perm.cons a ih)
theorem seq_ix {k n : Nat} (h : k < n) : seqIndex? (k : Int) n = some k := by
  unfold seqIndex?
  simp
  omega
theorem kp_refl {D : List Addr} (H : Hp) : Kp D H H := fun _ _ h _ => h
theorem Kp.trans {D : List Addr} {H H1 H2 : Hp} (a : Kp D H H1) (b : Kp D H1 H2) : Kp D H H2 := fun x o h n => b x o (a x o h n) n
/-- a change at a place that was free, or at one of D -/
theorem Kp.up {D : List Addr} {H H1 : Hp} {p : Addr} {o : HO} (a : Kp D H H1) (h : H p = none ∨ p ∈ D) : Kp D H (upd H1 p o) := fun x u hx n => by
  have : x ≠ p := by
    rintro rfl
    rcases h with h | h
    · rw [hx] at h; cases h
    · exact n h
  rw [upd_ne this]
  exact a x u hx n
section
variable {P : Program} {w : World} {K : PySem.W.Frag} {mg : Str → Option Value} {base : Heap} {CB CC CF : Addr}
theorem itm_kp {D : List Addr} {H H' : Hp} {x : V} (h : Itm H x) (k : Kp D H H') (hD : ∀ a xs, H a = some (.tup xs) → a ∉ D) : Itm H' x := by
  rcases h with h | ⟨a, t, n, e, ha, hl⟩
  · exact .inl h
  · exact .inr ⟨a, t, n, e, k _ _ ha (hD _ _ ha), hl⟩
/-! ### the items in a drawn order -/
end
end K75
-- part R1
set_option Elab.async false
set_option linter.all false
set_option maxRecDepth 100000
set_option maxHeartbeats 4000000
namespace K75
open PySem PySem.Spec PyProof.Rows L2
section
variable {X : Cx}
/-- list(text) -/
theorem signs_vals : ∀ (t : Tx0) (us : List Value), us.length = t.length → (∀ (j : Nat) (v : Value), us[j]? = some v → ∃ c u, t[j]? = some c ∧ v = Value.str ⟨#[c]⟩ u) → Vals (t.map fun c => tv [c]) us
  | [], [], _, _ => .nil
  | c :: t, u :: us, hl, h => by
    refine .cons ?_ (signs_vals t us (by simpa using hl) fun j v e => ?_)
    · obtain ⟨d, z, e1, e2⟩ := h 0 u rfl
      cases e1
      exact ⟨z, e2⟩
    · obtain ⟨d, z, e1, e2⟩ := h (j + 1) v e
      exact ⟨d, z, by simpa using e1, e2⟩
theorem cr_listStr (hc : X.calm = true) : CallR X (.type "list") (fun xs H Q => ∃ t : Tx0, xs = [tv t] ∧ t.length ≤ sizeLine ∧ ∀ l, H l = none → Q (.ref l) (upd H l (.lst (t.map fun c => tv [c])))) := by
  intro pins s σ H xs us Q I r h
  obtain ⟨t, rfl, hz, q⟩ := h
  obtain ⟨u, rfl, tk, rfl⟩ := vals1 r
  refine call_list_str (I.ok.hd hc) (SX.S t) tk (hn := by simpa using hz) fun h' tk' acc c' hk hD hacc => ?_
  have hv : Vals (t.map fun c => tv [c]) acc.toList := signs_vals t acc.toList (by rw [Array.length_toList, hacc.1]; simp) fun j v e => by
    obtain ⟨c, z, e1, e2⟩ := hacc.2 j v (by rw [← Array.getElem?_toList]; exact e)
    exact ⟨c, z, by simpa using e1, e2⟩
  refine ⟨.ref s.heap.objs.size, upd H s.heap.objs.size (.lst (t.map fun c => tv [c])), I.laid (t' := tk') hk (Nat.le_refl _) ?_, rfl, q _ (I.hok.fresh (Nat.le_refl _))⟩
  exact ⟨by rw [List.length_map]; exact hz, acc.toList, c', hv, by rw [Array.toArray_toList]; exact hD⟩
/-- text * n -/
theorem rep_eq (x : Array Nat) : ∀ n : Nat, ((List.replicate n x).foldl (· ++ ·) #[]).toList = (List.replicate n x.toList).flatten := by
  have go : ∀ (n : Nat) (a : Array Nat), ((List.replicate n x).foldl (· ++ ·) a).toList = a.toList ++ (List.replicate n x.toList).flatten := by
    intro n
    induction n with
    | zero => intro a; simp
    | succ n ih => intro a; rw [List.replicate_succ, List.foldl_cons, ih, List.replicate_succ, List.flatten_cons]; simp
  intro n
  rw [go n #[]]
  simp
def rRepS : R2 := fun x y H Q => ∃ (t : Tx0) (n : Nat), x = tv t ∧ y = .int (n : Int) ∧ t ≠ [] ∧ 2 ≤ n ∧ t.length * n ≤ 1000000 ∧ Q (tv (List.replicate n t).flatten) H
theorem op_rep_str : OpR X (binaryOp .Mult) rRepS := by
  intro pins s σ H x y v u Q I rx ry h
  obtain ⟨t, n, rfl, rfl, hne, h2, hl, q⟩ := h
  obtain ⟨tx, rfl⟩ := rx
  obtain ⟨ty, rfl⟩ := ry
  have hpos : 0 < t.length := List.length_pos_iff.mpr hne
  have hn : n ≤ 1000000 := Nat.le_trans (Nat.le_mul_of_pos_left n hpos) hl
  have e1 : (((n : Int) == 1) || (SX.S t).length == 0) = false := by
    rw [SX.S_len]
    have a1 : ((n : Int) == 1) = false := by
      rw [beq_eq_false_iff_ne]
      omega
    have a2 : (t.length == 0) = false := by
      rw [beq_eq_false_iff_ne]
      omega
    rw [a1, a2]
    rfl
  refine PySem.P.mul_str ?_ (fun _ _ => ?_) (fun _ _ => ?_) ?_
  · rw [decide_eq_false (show ¬ (n : Int) < -(2 ^ 63) by omega), decide_eq_false (show ¬ (n : Int) ≥ 2 ^ 63 by omega)]
    rfl
  · rw [SX.S_len]
    have hm : (t.length : Int) * (n : Int) ≤ 1000000 := by
      rw [← Int.natCast_mul]
      omega
    intro hgt
    have hd : (2 ^ 63 - 1) / (n : Int) < (t.length : Int) := hgt
    have := (Int.ediv_lt_iff_lt_mul (show (0 : Int) < n by omega)).mp hd
    omega
  · rw [SX.S_len]
    have : (n : Int).toNat = n := Int.toNat_natCast n
    rw [this]
    have h3 : sizeLine = 16777216 := sizeLine_eq
    exact decide_eq_false (show ¬ t.length * n > sizeLine by omega)
  · rw [if_neg (show ¬ (n : Int) < 1 by omega), e1, if_neg Bool.false_ne_true]
    have e2 : (⟨(List.replicate (n : Int).toNat (SX.S t).cps).foldl (· ++ ·) #[]⟩ : Str) = SX.S (List.replicate n t).flatten := by
      rw [Int.toNat_natCast]
      exact TL.ext_tl (rep_eq (SX.S t).cps n)
    rw [e2]
    refine ⟨?_, tv (List.replicate n t).flatten, H, I.tok _, ⟨_, rfl⟩, q⟩
    rw [SX.S_len, List.length_flatten, List.map_replicate, List.sum_replicate_nat]
    have h3 : sizeLine = 16777216 := sizeLine_eq
    rw [Nat.mul_comm]
    omega
/-! repr of data, where no repr is under way -/
def rRepr (K : PySem.W.Frag) : List V → Hp → VK → Prop := fun xs H Q => ∃ x d, xs = [x] ∧ Dp K H x d ∧ d.canLay0 = true ∧ d.depth ≤ 30 ∧ d.showable = true ∧ d.shown.length ≤ sizeLine ∧ Q (.str d.shown) H
theorem call_repr (hg : X.A.guards = some []) (hu : X.A.units + 64 < cLine) : CallR X (.builtin "repr") (rRepr X.K) := by
  intro pins s σ H xs us Q I r h
  obtain ⟨x, d, rfl, hd, hl, hdp, hs, hz, q⟩ := h
  obtain ⟨u, rfl, rx⟩ := vals1 r
  obtain ⟨as, rd⟩ := Dp.reads I d x u hd rx
  have kept : ∀ h' z tk, (∀ b o, s.heap.get? b = some o → h'.get? b = some o) → EP X pins σ Q (.str d.shown z) { s with heap := h', toks := tk } := fun h' z tk hk =>
    ⟨.str d.shown, H, I.kept (t' := tk) hk, ⟨z, rfl⟩, q⟩
  cases hd with
  | non =>
    cases rx
    exact PySem.P.repr_of_none (kept s.heap _ _ fun _ _ e => e)
  | bl b =>
    cases rx
    exact PySem.P.repr_of_bool (kept s.heap _ _ fun _ _ e => e)
  | int i =>
    obtain ⟨t, rfl⟩ := rx
    exact PySem.P.repr_of_int (by simpa [PyData.showable] using hs) (kept s.heap _ _ fun _ _ e => e)
  | str y =>
    obtain ⟨t, rfl⟩ := rx
    exact PySem.P.repr_of_str (kept s.heap _ _ fun _ _ e => e) (by simpa only [PyData.shown] using hz)
  | lst h1 h2 =>
    cases rx
    exact repr_of_reads' rd hs (PyData.noDict_hsm (PyData.hasDict_of_canLay _ hl)) hg (by omega) (fun _ _ e => e) (fun h' z tk hk => kept h' z tk hk) hz
  | tup h1 h2 =>
    cases rx
    exact repr_of_reads' rd hs (PyData.noDict_hsm (PyData.hasDict_of_canLay _ hl)) hg (by omega) (fun _ _ e => e) (fun h' z tk hk => kept h' z tk hk) hz
end
end K75
-- part D3
set_option Elab.async false
set_option linter.all false
set_option maxRecDepth 100000
set_option maxHeartbeats 4000000
namespace K75
open PySem PySem.Spec PyProof.Rows L2
abbrev sg (c : Nat) : V := tv [c]
theorem erase_map {α β : Type} (f : α → β) : ∀ (l : List α) (j : Nat), (l.map f).eraseIdx j = (l.eraseIdx j).map f
  | [], _ => rfl
  | _ :: _, 0 => rfl
  | a :: l, j + 1 => congrArg (f a :: ·) (erase_map f l j)
def abc : Tx0 := List.range' 97 26
theorem abc_lt : Lt abc := by unfold Lt abc; decide
theorem len_sg : ∀ t : Tx0, ((t.map fun c => [c]).map fun x => x.length).sum = t.length
  | [] => rfl
  | c :: t => by
    rw [List.map_cons, List.map_cons, List.sum_cons, len_sg t]
    exact Nat.add_comm 1 t.length
theorem join_sg (t : Tx0) : Txt.join (SX.S []) ((t.map fun c => [c]).map SX.S) = SX.S t := by
  rw [SX.join_S]
  refine congrArg SX.S ?_
  induction t with
  | nil => rfl
  | cons c t ih =>
    cases t with
    | nil => rfl
    | cons d t =>
      show [c] ++ [] ++ TL.joinL [] (([d] : List Nat) :: t.map fun c => [c]) = c :: d :: t
      rw [show TL.joinL [] (([d] : List Nat) :: t.map fun c => [c]) = d :: t from ih]
      rfl
section
variable {P : Program} {w : World} {K : PySem.W.Frag} {mg : Str → Option Value} {base : Heap} {CB CC CF : Addr}
theorem Kp.free {D : List Addr} {H H' : Hp} (k : Kp D H H') {e : Addr} (he : H' e = none) (hD : e ∉ D) : H e = none := by
  cases z : H e with
  | none => rfl
  | some o => rw [k e o z hD] at he; cases he
theorem Reel.ne {H : Hp} {r p : Addr} (h : Reel H r) (hp : H p = none) : r ≠ p := by
  obtain ⟨a, b, c, e⟩ := h
  exact ne_of_none e hp
/-! ### different letters -/
/-! ### a drawn text -/
end
end K75
-- part DV
set_option Elab.async false
set_option linter.all false
set_option maxRecDepth 100000
set_option maxHeartbeats 4000000
namespace K75
open PySem PySem.Spec PyProof.Rows L2
/-! tables whose keys are texts -/
abbrev kx (t : Tx0) : Key := Sum.inr (SX.S t)
theorem kx_inj {a b : Tx0} (h : kx a = kx b) : a = b := by
  have := congrArg (fun s : Str => s.cps.toList) (Sum.inr.inj h)
  simpa [SX.S] using this
section
variable {β : Type}
def getA (m : List (Tx0 × β)) (k : Tx0) : Option β := (m.find? fun p => decide (p.1 = k)).map (·.2)
def putA (m : List (Tx0 × β)) (k : Tx0) (v : β) : List (Tx0 × β) := if k ∈ m.map (·.1) then m.map (fun p => if p.1 = k then (p.1, v) else p) else m ++ [(k, v)]
def dV (f : β → V) (m : List (Tx0 × β)) : List (Key × V) := m.map fun p => (kx p.1, f p.2)
theorem dV_length (f : β → V) (m : List (Tx0 × β)) : (dV f m).length = m.length := List.length_map ..
theorem valV_dV (f : β → V) (k : Tx0) : ∀ m : List (Tx0 × β), valV (dV f m) (kx k) = (getA m k).map f
  | [] => rfl
  | p :: m => by
    by_cases e : p.1 = k
    · have : kx p.1 = kx k := by rw [e]
      show valV ((kx p.1, f p.2) :: dV f m) (kx k) = _
      rw [valV_pos this]
      simp [getA, List.find?_cons, e]
    · have : ¬ kx p.1 = kx k := fun h => e (kx_inj h)
      show valV ((kx p.1, f p.2) :: dV f m) (kx k) = _
      rw [valV_neg this, valV_dV f k m]
      simp [getA, List.find?_cons, e]
theorem getA_none {m : List (Tx0 × β)} {k : Tx0} : getA m k = none ↔ k ∉ m.map (·.1) := by
  unfold getA
  rw [Option.map_eq_none_iff, List.find?_eq_none]
  simp only [decide_eq_true_eq, List.mem_map, not_exists, not_and]
theorem getA_some {m : List (Tx0 × β)} {k : Tx0} {v : β} (h : getA m k = some v) : (k, v) ∈ m := by
  unfold getA at h
  obtain ⟨p, h1, h2⟩ := Option.map_eq_some_iff.mp h
  have := List.find?_some h1
  have e := List.mem_of_find?_eq_some h1
  simp only [decide_eq_true_eq] at this
  obtain ⟨a, b⟩ := p
  cases this
  cases h2
  exact e
theorem getA_mem {m : List (Tx0 × β)} (nd : (m.map (·.1)).Nodup) {k : Tx0} {v : β} (h : (k, v) ∈ m) : getA m k = some v := by
  induction m with
  | nil => cases h
  | cons p m ih =>
    rw [List.map_cons, List.nodup_cons] at nd
    by_cases e : p.1 = k
    · rcases List.mem_cons.mp h with h | h
      · subst h
        simp [getA, List.find?_cons]
      · exact absurd (List.mem_map_of_mem (f := (·.1)) h) (by rw [← e]; exact nd.1)
    · rcases List.mem_cons.mp h with h | h
      · subst h
        exact absurd rfl e
      · have := ih nd.2 h
        simp only [getA, List.find?_cons, e, decide_false] at this ⊢
        exact this
theorem getA_isSome {m : List (Tx0 × β)} {k : Tx0} : (getA m k).isSome = decide (k ∈ m.map (·.1)) := by
  cases h : getA m k with
  | none => exact (decide_eq_false (getA_none.mp h)).symm
  | some v => exact (decide_eq_true (List.mem_map_of_mem (f := (·.1)) (getA_some h))).symm
theorem keys_putA (m : List (Tx0 × β)) (k : Tx0) (v : β) : (putA m k v).map (·.1) = if k ∈ m.map (·.1) then m.map (·.1) else m.map (·.1) ++ [k] := by
  unfold putA
  by_cases h : k ∈ m.map (·.1)
  · rw [if_pos h, if_pos h, List.map_map]
    refine List.map_congr_left fun p _ => ?_
    simp only [Function.comp_apply]
    split <;> rfl
  · rw [if_neg h, if_neg h, List.map_append]
    rfl
theorem mem_keys_putA {m : List (Tx0 × β)} {k j : Tx0} {v : β} : j ∈ (putA m k v).map (·.1) ↔ j = k ∨ j ∈ m.map (·.1) := by
  rw [keys_putA]
  by_cases h : k ∈ m.map (·.1)
  · rw [if_pos h]
    exact ⟨.inr, fun z => z.elim (fun e => by rw [e]; exact h) id⟩
  · rw [if_neg h, List.mem_append, List.mem_singleton]
    exact Or.comm
theorem nd_putA {m : List (Tx0 × β)} {k : Tx0} {v : β} (nd : (m.map (·.1)).Nodup) : ((putA m k v).map (·.1)).Nodup := by
  rw [keys_putA]
  by_cases h : k ∈ m.map (·.1)
  · rw [if_pos h]; exact nd
  · rw [if_neg h]; exact nd_snoc nd h
theorem mem_putA {m : List (Tx0 × β)} {k : Tx0} {v : β} {p : Tx0 × β} (h : p ∈ putA m k v) : p = (k, v) ∨ p ∈ m := by
  unfold putA at h
  split at h
  · obtain ⟨q, hq, e⟩ := List.mem_map.mp h
    by_cases e2 : q.1 = k
    · rw [if_pos e2] at e
      rw [← e, e2]
      exact .inl rfl
    · rw [if_neg e2] at e
      rw [← e]
      exact .inr hq
  · rcases List.mem_append.mp h with h | h
    · exact .inr h
    · exact .inl (List.mem_singleton.mp h)
theorem len_putA (m : List (Tx0 × β)) (k : Tx0) (v : β) : m.length ≤ (putA m k v).length ∧ (putA m k v).length ≤ m.length + 1 := by
  unfold putA
  split
  · rw [List.length_map]; omega
  · rw [List.length_append, List.length_singleton]; omega
theorem putA_new {m : List (Tx0 × β)} {k : Tx0} {v : β} (h : k ∉ m.map (·.1)) : putA m k v = m ++ [(k, v)] := if_neg h
theorem putK_dV (f : β → V) (m : List (Tx0 × β)) (k : Tx0) (v : β) : putK (dV f m) (kx k) (f v) = dV f (putA m k v) := by
  have e : ((dV f m).any fun kv => decide (kv.1 = kx k)) = decide (k ∈ m.map (·.1)) := by
    rw [valV_any, valV_dV, Option.isSome_map, getA_isSome]
  unfold putK putA
  rw [e]
  by_cases h : k ∈ m.map (·.1)
  · rw [if_pos (decide_eq_true h), if_pos h]
    unfold dV
    rw [List.map_map, List.map_map]
    refine List.map_congr_left fun p _ => ?_
    simp only [Function.comp_apply]
    by_cases e2 : p.1 = k
    · rw [if_pos e2, if_pos (by rw [e2])]
    · rw [if_neg e2, if_neg (fun z => e2 (kx_inj z))]
  · rw [if_neg (by rw [decide_eq_false h]; exact Bool.false_ne_true), if_neg h]
    unfold dV
    rw [List.map_append]
    rfl
theorem merge_dV (f : β → V) : ∀ (m l : List (Tx0 × β)), ((l ++ m).map (·.1)).Nodup → mergeK (dV f l) (dV f m) = dV f (l ++ m)
  | [], l, _ => by rw [List.append_nil]; rfl
  | p :: m, l, nd => by
    have nd2 := nd
    rw [List.map_append, List.map_cons] at nd2
    have h : p.1 ∉ l.map (·.1) := fun z => (List.nodup_append.mp nd2).2.2 _ z _ (List.mem_cons_self ..) rfl
    show mergeK (putK (dV f l) (kx p.1) (f p.2)) (dV f m) = _
    rw [putK_dV, putA_new h, merge_dV f m (l ++ [(p.1, p.2)]) (by rw [List.append_assoc]; exact nd), List.append_assoc]
    rfl
theorem merge_self (f : β → V) {m : List (Tx0 × β)} (nd : (m.map (·.1)).Nodup) : mergeK [] (dV f m) = dV f m := merge_dV f m [] nd
end
/-! mixing -/
theorem perm_map_ex {α γ : Type} {g : α → γ} {ys zs : List γ} (h : ys.Perm zs) : ∀ l : List α, zs = l.map g → ∃ l' : List α, ys = l'.map g ∧ l'.Perm l := by
  induction h with
  | nil =>
    rintro l e
    cases l with
    | nil => exact ⟨[], rfl, .refl _⟩
    | cons => cases e
  | cons x p ih =>
    rintro l e
    cases l with
    | nil => cases e
    | cons a l =>
      rw [List.map_cons] at e
      injection e with e1 e2
      obtain ⟨l', e3, e4⟩ := ih l e2
      exact ⟨a :: l', by rw [List.map_cons, e1, e3], .cons a e4⟩
  | swap x y l0 =>
    rintro l e
    match l, e with
    | a :: b :: l, e =>
      rw [List.map_cons, List.map_cons] at e
      injection e with e1 e2
      injection e2 with e2 e3
      exact ⟨b :: a :: l, by rw [List.map_cons, List.map_cons, e1, e2, e3], .swap a b l⟩
  | trans p1 p2 ih1 ih2 =>
    rintro l e
    obtain ⟨l1, e1, q1⟩ := ih2 l e
    obtain ⟨l2, e2, q2⟩ := ih1 l1 e1
    exact ⟨l2, e2, q2.trans q1⟩
theorem paired_perm {α γ : Type} {F : α → γ → Prop} {ps ts : List α} (h : ps.Perm ts) : ∀ kvs : List γ, Paired F ts kvs → ∃ kvs' : List γ, kvs'.Perm kvs ∧ Paired F ps kvs' := by
  induction h with
  | nil => exact fun kvs h => ⟨kvs, .refl _, h⟩
  | cons x p ih =>
    rintro _ (_ | ⟨h1, h2⟩)
    obtain ⟨k', e1, e2⟩ := ih _ h2
    exact ⟨_ :: k', .cons _ e1, .cons h1 e2⟩
  | swap x y l =>
    rintro _ (_ | ⟨h1, _ | ⟨h2, h3⟩⟩)
    exact ⟨_, .swap _ _ _, .cons h2 (.cons h1 h3)⟩
  | trans p1 p2 ih1 ih2 =>
    rintro kvs h
    obtain ⟨k1, e1, q1⟩ := ih2 kvs h
    obtain ⟨k2, e2, q2⟩ := ih1 k1 q1
    exact ⟨k2, e2.trans e1, q2⟩
theorem nodup_len_le {α : Type} [DecidableEq α] : ∀ {xs ys : List α}, xs.Nodup → (∀ x ∈ xs, x ∈ ys) → xs.length ≤ ys.length
  | [], ys, _, _ => Nat.zero_le _
  | x :: xs, ys, nd, h => by
    have nd := List.nodup_cons.mp nd
    have hx := h x (List.mem_cons_self ..)
    have := nodup_len_le (ys := ys.erase x) nd.2 fun z hz => (List.mem_erase_of_ne (fun e => nd.1 (by rw [← e]; exact hz))).mpr (h z (List.mem_cons_of_mem _ hz))
    rw [List.length_erase_of_mem hx] at this
    have : 0 < ys.length := List.length_pos_of_mem hx
    rw [List.length_cons]
    omega
theorem hu1 {k : Nat} {A : Around} (r : Room k A) : A.units + 1 < cLine := by have := r.un; omega
end K75
-- part D5
set_option Elab.async false
set_option linter.all false
set_option maxRecDepth 100000
set_option maxHeartbeats 4000000
namespace K75
open PySem PySem.Spec PyProof.Rows L2
/-! ### books as tables -/
abbrev Bk := List (Tx0 × Int)
abbrev dB (bk : Bk) : List (Key × V) := dV V.int bk
/-- what can be a book -/
structure GoodBook (bk : Bk) : Prop where
  nd : (bk.map (·.1)).Nodup
  ne : 1 ≤ bk.length
  le : bk.length ≤ 12
  lt : ∀ p ∈ bk, Lt p.1
  ln : ∀ p ∈ bk, 1 ≤ p.1.length ∧ p.1.length ≤ 5
  pr : ∀ p ∈ bk, 1 ≤ p.2 ∧ p.2 ≤ 99
  on : (bk.filter fun p => decide (p.1.length = 1)).length ≤ 4
  sg : ∀ p ∈ bk, ∀ c ∈ p.1, [c] ∈ bk.map (·.1)
theorem GoodBook.perm {bk bl : Bk} (g : GoodBook bk) (h : bl.Perm bk) : GoodBook bl := by
  refine ⟨(h.map _).nodup_iff.mpr g.nd, by rw [h.length_eq]; exact g.ne, by rw [h.length_eq]; exact g.le, fun p hp => g.lt p (h.mem_iff.mp hp), fun p hp => g.ln p (h.mem_iff.mp hp), fun p hp => g.pr p (h.mem_iff.mp hp), by rw [(h.filter _).length_eq]; exact g.on, fun p hp c hc => (h.map _).mem_iff.mpr (g.sg p (h.mem_iff.mp hp) c hc)⟩
/-- on the way: texts over the letters cs -/
structure GB (cs : Tx0) (bk : Bk) : Prop where
  nd : (bk.map (·.1)).Nodup
  ok : ∀ p ∈ bk, 1 ≤ p.1.length ∧ p.1.length ≤ 5 ∧ (∀ c ∈ p.1, c ∈ cs) ∧ 1 ≤ p.2 ∧ p.2 ≤ 99
theorem GB.put {cs : Tx0} {bk : Bk} (g : GB cs bk) {k : Tx0} {n : Int} (h1 : 1 ≤ k.length) (h2 : k.length ≤ 5) (h3 : ∀ c ∈ k, c ∈ cs) (h4 : 1 ≤ n) (h5 : n ≤ 99) : GB cs (putA bk k n) :=
  ⟨nd_putA g.nd, fun p hp => by
    rcases mem_putA hp with e | h
    · subst e
      exact ⟨h1, h2, h3, h4, h5⟩
    · exact g.ok p h⟩
theorem one_of_len {t : Tx0} (h : t.length = 1) : ∃ c, t = [c] := by
  match t, h with
  | [c], _ => exact ⟨c, rfl⟩
theorem GB.good {cs : Tx0} {bk : Bk} (g : GB cs bk) (hcs : cs ≠ []) (hc : cs.length ≤ 4) (hl : Lt cs) (hf : ∀ c ∈ cs, [c] ∈ bk.map (·.1)) (h12 : bk.length ≤ 12) : GoodBook bk := by
  refine ⟨g.nd, ?_, h12, fun p hp c h => hl c ((g.ok p hp).2.2.1 c h), fun p hp => ⟨(g.ok p hp).1, (g.ok p hp).2.1⟩, fun p hp => (g.ok p hp).2.2.2, ?_, fun p hp c h => hf c ((g.ok p hp).2.2.1 c h)⟩
  · cases cs with
    | nil => exact absurd rfl hcs
    | cons c cs =>
      have := hf c (List.mem_cons_self ..)
      have := List.length_pos_of_mem this
      rw [List.length_map] at this
      exact this
  · have e : (bk.filter fun p => decide (p.1.length = 1)).length = ((bk.filter fun p => decide (p.1.length = 1)).map (·.1)).length := (List.length_map ..).symm
    have : ((bk.filter fun p => decide (p.1.length = 1)).map (·.1)).length ≤ (cs.map fun c => [c]).length := by
      refine nodup_len_le (List.Nodup.sublist ((List.filter_sublist).map _) g.nd) fun x hx => ?_
      obtain ⟨p, hp, rfl⟩ := List.mem_map.mp hx
      obtain ⟨h1, h2⟩ := List.mem_filter.mp hp
      obtain ⟨c, ec⟩ := one_of_len (of_decide_eq_true h2)
      rw [ec]
      refine List.mem_map_of_mem ?_
      exact (g.ok p h1).2.2.1 c (by rw [ec]; exact List.mem_cons_self ..)
    rw [e]
    refine Nat.le_trans this ?_
    rw [List.length_map]
    exact hc
/-- heaps on the way -/
structure BB (H0 : Hp) (r l d : Addr) (cs : Tx0) (H : Hp) (bk : Bk) : Prop where
  kp : Kp [r] H0 H
  rl : Reel H r
  hl : H l = some (.lst (cs.map sg))
  hd : H d = some (.dK (dB bk))
  l0 : H0 l = none
  d0 : H0 d = none
  nl : r ≠ l
  nd : r ≠ d
  ld : l ≠ d
section
variable {H0 H : Hp} {r l d : Addr} {cs : Tx0} {bk : Bk}
theorem BB.fresh (b : BB H0 r l d cs H bk) {p : Addr} {o : HO} (h : H p = none) : BB H0 r l d cs (upd H p o) bk :=
  ⟨b.kp.up (.inl (by cases z : H0 p with
    | none => rfl
    | some o =>
      by_cases e : p = r
      · obtain ⟨x, y, w, e2⟩ := b.rl
        rw [e, e2] at h; cases h
      · rw [b.kp p o z (by simpa using e)] at h; cases h)), reel_upd b.rl (b.rl.ne h), by rw [upd_ne (ne_of_none b.hl h)]; exact b.hl, by rw [upd_ne (ne_of_none b.hd h)]; exact b.hd, b.l0, b.d0, b.nl, b.nd, b.ld⟩
theorem BB.reel (b : BB H0 r l d cs H bk) (x y z : Int) : BB H0 r l d cs (upd H r (.lst [.int x, .int y, .int z])) bk :=
  ⟨b.kp.up (.inr (by simp)), reel_same x y z, by rw [upd_ne b.nl.symm]; exact b.hl, by rw [upd_ne b.nd.symm]; exact b.hd, b.l0, b.d0, b.nl, b.nd, b.ld⟩
theorem BB.put (b : BB H0 r l d cs H bk) (bl : Bk) : BB H0 r l d cs (upd H d (.dK (dB bl))) bl :=
  ⟨b.kp.up (.inl b.d0), reel_upd b.rl b.nd, by rw [upd_ne b.ld]; exact b.hl, upd_same, b.l0, b.d0, b.nl, b.nd, b.ld⟩
theorem BB.call (b : BB H0 r l d cs H bk) {H' : Hp} (k : Kp [r] H H') (h : Reel H' r) : BB H0 r l d cs H' bk :=
  ⟨b.kp.trans k, h, k _ _ b.hl (by simpa using b.nl.symm), k _ _ b.hd (by simpa using b.nd.symm), b.l0, b.d0, b.nl, b.nd, b.ld⟩
theorem BB.dput (b : BB H0 r l d cs H bk) (hz : bk.length ≤ 1000) (k : Tx0) (n : Int) : DPut H d (tv k) (.int n) (upd H d (.dK (dB (putA bk k n)))) := by
  have h3 : sizeLine = 16777216 := sizeLine_eq
  have := DPut.k (k := kx k) (v := .int n) b.hd (by rw [dV_length]; omega)
  rw [putK_dV] at this
  exact this
end
theorem paired_weak {α γ : Type} {F G : α → γ → Prop} {ps : List α} {kvs : List γ} (h : Paired F ps kvs) (w : ∀ a c, a ∈ ps → F a c → G a c) : Paired G ps kvs := by
  induction h with
  | nil => exact .nil
  | cons h1 h2 ih => exact .cons (w _ _ (List.mem_cons_self ..) h1) (ih fun a c ha => w a c (List.mem_cons_of_mem _ ha))
section
variable {P : Program} {w : World} {K : PySem.W.Frag} {mg : Str → Option Value} {base : Heap} {CB CC CF : Addr}
end
end K75
-- part C1
set_option Elab.async false
set_option linter.all false
set_option maxRecDepth 100000
set_option maxHeartbeats 4000000
namespace K75
open PySem PySem.Spec PyProof.Rows L2
/-! ### texts as lists -/
/-- b stands at the beginning of a -/
def beg (b a : Tx0) : Bool := decide (b = a.take b.length)
def fin (b a : Tx0) : Bool := decide (b.length ≤ a.length ∧ a.drop (a.length - b.length) = b)
theorem starts_S (a b : Tx0) : Txt.startswith (SX.S a) (SX.S b) = beg b a := by
  unfold Txt.startswith beg
  rw [StrLaws.subAt_eq, SX.S_len, SX.S_len, List.drop_zero, Nat.zero_add]
  show (decide (b.length ≤ a.length) && (a.take b.length == b)) = _
  rw [Bool.eq_iff_iff]
  simp only [Bool.and_eq_true, decide_eq_true_eq, beq_iff_eq]
  constructor
  · exact fun h => h.2.symm
  · intro h
    refine ⟨?_, h.symm⟩
    have := congrArg List.length h
    rw [List.length_take] at this
    omega
theorem ends_S (a b : Tx0) : Txt.endswith (SX.S a) (SX.S b) = fin b a := by
  unfold Txt.endswith fin
  rw [StrLaws.subAt_eq, SX.S_len, SX.S_len, Nat.zero_add]
  show (decide (b.length ≤ a.length) && ((a.drop (a.length - b.length)).take b.length == b)) = _
  rw [Bool.eq_iff_iff]
  simp only [Bool.and_eq_true, decide_eq_true_eq, beq_iff_eq]
  constructor
  · rintro ⟨h1, h2⟩
    refine ⟨h1, ?_⟩
    rw [List.take_of_length_le (by rw [List.length_drop]; omega)] at h2
    exact h2
  · rintro ⟨h1, h2⟩
    refine ⟨h1, ?_⟩
    rw [List.take_of_length_le (by rw [List.length_drop]; omega)]
    exact h2
/-! ### sorted lists of texts -/
theorem risingS_pw : ∀ (p : Str) (l : List Str), risingS p l = true → (p :: l).Pairwise fun a b => ¬ b.cps.toList < a.cps.toList
  | p, [], _ => List.pairwise_singleton ..
  | p, x :: r, h => by
    simp only [risingS, Bool.and_eq_true, Bool.not_eq_true', ltCps_eq, decide_eq_false_iff_not] at h
    have ih := risingS_pw x r h.2
    refine List.pairwise_cons.mpr ⟨fun y hy => ?_, ih⟩
    rcases List.mem_cons.mp hy with e | hy
    · subst e
      exact h.1
    · have h2 := List.rel_of_pairwise_cons ih hy
      exact List.not_lt.mpr (List.le_trans (List.not_lt.mp h.1) (List.not_lt.mp h2))
theorem sortedS_pw {l : List Str} (h : sortedS l = true) : l.Pairwise fun a b => ¬ b.cps.toList < a.cps.toList := by
  cases l with
  | nil => exact .nil
  | cons x r => exact risingS_pw x r h
theorem sorted_eq {l m : List Str} (hl : sortedS l = true) (hm : sortedS m = true) (p : l.Perm m) : l = m :=
  List.Perm.eq_of_pairwise (fun a b _ _ h1 h2 => TL.ext_tl (List.le_antisymm (List.not_lt.mp h1) (List.not_lt.mp h2))) (sortedS_pw hl) (sortedS_pw hm) p
/-- in order -/
def Srt (l : List Tx0) : Prop := sortedS (l.map SX.S) = true
theorem srt_eq {l m : List Tx0} (hl : Srt l) (hm : Srt m) (p : l.Perm m) : l = m := by
  have := sorted_eq hl hm (p.map SX.S)
  exact (List.map_inj_right fun _ _ => SX.S_inj).mp this
theorem perm_S {ys : List Str} {l : List Tx0} (h : ys.Perm (l.map SX.S)) (hs : sortedS ys = true) : ∃ l' : List Tx0, ys = l'.map SX.S ∧ l'.Perm l ∧ Srt l' := by
  obtain ⟨l', e, p⟩ := perm_map_ex h l rfl
  exact ⟨l', e, p, by unfold Srt; rw [← e]; exact hs⟩
/-! ### comprehensions without effects -/
theorem upd_upd {H : Hp} {D : Addr} {a b : HO} : upd (upd H D a) D b = upd H D b := by
  funext z
  by_cases h : z = D
  · subst h
    rw [upd_same, upd_same]
  · rw [upd_ne h, upd_ne h, upd_ne h]
theorem upd_lock {H : Hp} {d D : Addr} {x u o : HO} (h : H d = some u) (ne : D ≠ d) : upd (upd (upd H d x) D o) d u = upd H D o := by
  funext z
  by_cases e : z = d
  · subst e
    rw [upd_same, upd_ne ne.symm]
    exact h.symm
  · rw [upd_ne e]
    by_cases e2 : z = D
    · subst e2
      rw [upd_same, upd_same]
    · rw [upd_ne e2, upd_ne e2, upd_ne e]
theorem lc_pure {α : Type} {J : It} {G : Hp → Prop} {g : TG} {tt : TT} {te : TE} {vs : List Nat} {σ : L2.St} {H1 : Hp} {D : Addr} {Qd : Hp → Prop} (xs : List α) (v : α → V) (c : α → Bool) (e : α → V)
    (w : Walk J xs.length G (fun i H x H' => H' = H ∧ ∃ a, xs[i]? = some a ∧ x = v a)) (hG : ∀ acc, G (upd H1 D (.lst acc))) (hz : xs.length < sizeLine)
    (hs : ∀ a ∈ xs, ∀ acc (Nx : Hp → Prop), acc.length < sizeLine → (c a = true → Nx (upd H1 D (.lst (acc ++ [e a])))) → (c a = false → Nx (upd H1 D (.lst acc))) →
      g (v a) (wipe σ vs) (upd H1 D (.lst acc)) fun σ2 H2 => wipe σ2 vs = wipe σ vs ∧ tt σ2 H2 fun b H3 =>
        if b = true then te σ2 H3 fun y H4 => ∃ acc, H4 D = some (.lst acc) ∧ acc.length < sizeLine ∧ Nx (upd H4 D (.lst (acc ++ [y]))) else Nx H3)
    (hd : Qd (upd H1 D (.lst ((xs.filter c).map e)))) :
    ∃ W : Nat → Nat → Hp → Prop, (∃ m, W 0 m (upd H1 D (.lst []))) ∧ ∀ i m H, W i m H →
      (J.stop i H ∧ Qd H) ∨ (J.go i H ∧ ∃ Nx : Hp → Prop, (∀ H', Nx H' → ∃ m', m' < m ∧ W (i + 1) m' H') ∧ ∀ x H', J.yld i H x H' → g x (wipe σ vs) H' fun σ2 H2 => wipe σ2 vs = wipe σ vs ∧ tt σ2 H2 fun b H3 =>
        if b = true then te σ2 H3 fun y H4 => ∃ acc, H4 D = some (.lst acc) ∧ acc.length < sizeLine ∧ Nx (upd H4 D (.lst (acc ++ [y]))) else Nx H3) := by
  refine lc_it w (fun i H => H = upd H1 D (.lst (((xs.take i).filter c).map e))) rfl (fun i H _ h => by rw [h]; exact hG _) ?_ ?_
  · rintro i x H H' hi rfl ⟨rfl, a, ha, rfl⟩
    have hlen : (((xs.take i).filter c).map e).length < sizeLine := by
      rw [List.length_map]
      have := List.length_filter_le c (xs.take i)
      rw [List.length_take] at this
      omega
    refine hs a (List.mem_of_getElem? ha) _ _ hlen (fun hc => ?_) (fun hc => ?_)
    · rw [List.take_add_one, ha, List.filter_append, List.map_append]
      simp [hc]
    · rw [List.take_add_one, ha, List.filter_append, List.map_append]
      simp [hc]
  · rintro H rfl
    rw [List.take_length]
    exact hd
/-- over a list or a tuple -/
theorem comp_list {α : Type} {K : PySem.W.Frag} {a : Addr} {g : TG} {tt : TT} {te : TE} {vs : List Nat} {σ : L2.St} {H1 : Hp} {D : Addr} {Qd : Hp → Prop} (xs : List α) (v : α → V) (c : α → Bool) (e : α → V)
    (hG : ∀ acc, SqL K (upd H1 D (.lst acc)) a (xs.map v)) (hz : xs.length < sizeLine)
    (hs : ∀ a ∈ xs, ∀ acc (Nx : Hp → Prop), acc.length < sizeLine → (c a = true → Nx (upd H1 D (.lst (acc ++ [e a])))) → (c a = false → Nx (upd H1 D (.lst acc))) →
      g (v a) (wipe σ vs) (upd H1 D (.lst acc)) fun σ2 H2 => wipe σ2 vs = wipe σ vs ∧ tt σ2 H2 fun b H3 =>
        if b = true then te σ2 H3 fun y H4 => ∃ acc, H4 D = some (.lst acc) ∧ acc.length < sizeLine ∧ Nx (upd H4 D (.lst (acc ++ [y]))) else Nx H3)
    (hd : Qd (upd H1 D (.lst ((xs.filter c).map e)))) :
    ∃ W : Nat → Nat → Hp → Prop, (∃ m, W 0 m (upd H1 D (.lst []))) ∧ ∀ i m H, W i m H →
      ((Itl K a).stop i H ∧ Qd H) ∨ ((Itl K a).go i H ∧ ∃ Nx : Hp → Prop, (∀ H', Nx H' → ∃ m', m' < m ∧ W (i + 1) m' H') ∧ ∀ x H', (Itl K a).yld i H x H' → g x (wipe σ vs) H' fun σ2 H2 => wipe σ2 vs = wipe σ vs ∧ tt σ2 H2 fun b H3 =>
        if b = true then te σ2 H3 fun y H4 => ∃ acc, H4 D = some (.lst acc) ∧ acc.length < sizeLine ∧ Nx (upd H4 D (.lst (acc ++ [y]))) else Nx H3) :=
  lc_pure xs v c e (G := fun H => SqL K H a (xs.map v)) (by
    have := (walk_list (K := K) (a := a) (xs := xs.map v)).mono (G' := fun H => SqL K H a (xs.map v)) (Y' := fun i H x H' => H' = H ∧ ∃ a, xs[i]? = some a ∧ x = v a) (fun _ h => h) fun i H x H' _ _ y => ⟨y.1, by
      have := y.2
      rw [List.getElem?_map] at this
      obtain ⟨b, h1, h2⟩ := Option.map_eq_some_iff.mp this
      exact ⟨b, h1, h2.symm⟩⟩
    rw [List.length_map] at this
    exact this) hG hz hs hd
theorem comp_tup {α : Type} {K : PySem.W.Frag} {a : Addr} {g : TG} {tt : TT} {te : TE} {vs : List Nat} {σ : L2.St} {H1 : Hp} {D : Addr} {Qd : Hp → Prop} (xs : List α) (v : α → V) (c : α → Bool) (e : α → V)
    (hG : ∀ acc, SqT K (upd H1 D (.lst acc)) a (xs.map v)) (hz : xs.length < sizeLine)
    (hs : ∀ a ∈ xs, ∀ acc (Nx : Hp → Prop), acc.length < sizeLine → (c a = true → Nx (upd H1 D (.lst (acc ++ [e a])))) → (c a = false → Nx (upd H1 D (.lst acc))) →
      g (v a) (wipe σ vs) (upd H1 D (.lst acc)) fun σ2 H2 => wipe σ2 vs = wipe σ vs ∧ tt σ2 H2 fun b H3 =>
        if b = true then te σ2 H3 fun y H4 => ∃ acc, H4 D = some (.lst acc) ∧ acc.length < sizeLine ∧ Nx (upd H4 D (.lst (acc ++ [y]))) else Nx H3)
    (hd : Qd (upd H1 D (.lst ((xs.filter c).map e)))) :
    ∃ W : Nat → Nat → Hp → Prop, (∃ m, W 0 m (upd H1 D (.lst []))) ∧ ∀ i m H, W i m H →
      ((Itt K a).stop i H ∧ Qd H) ∨ ((Itt K a).go i H ∧ ∃ Nx : Hp → Prop, (∀ H', Nx H' → ∃ m', m' < m ∧ W (i + 1) m' H') ∧ ∀ x H', (Itt K a).yld i H x H' → g x (wipe σ vs) H' fun σ2 H2 => wipe σ2 vs = wipe σ vs ∧ tt σ2 H2 fun b H3 =>
        if b = true then te σ2 H3 fun y H4 => ∃ acc, H4 D = some (.lst acc) ∧ acc.length < sizeLine ∧ Nx (upd H4 D (.lst (acc ++ [y]))) else Nx H3) :=
  lc_pure xs v c e (G := fun H => SqT K H a (xs.map v)) (by
    have := (walk_tup (K := K) (a := a) (xs := xs.map v)).mono (G' := fun H => SqT K H a (xs.map v)) (Y' := fun i H x H' => H' = H ∧ ∃ a, xs[i]? = some a ∧ x = v a) (fun _ h => h) fun i H x H' _ _ y => ⟨y.1, by
      have := y.2
      rw [List.getElem?_map] at this
      obtain ⟨b, h1, h2⟩ := Option.map_eq_some_iff.mp this
      exact ⟨b, h1, h2.symm⟩⟩
    rw [List.length_map] at this
    exact this) hG hz hs hd
/-- over the keys of a dict, which is locked -/
theorem comp_keys {β : Type} {f : β → V} {td : TE} {g : TG} {tt : TT} {te : TE} {vs : List Nat} {σ : L2.St} {H : Hp} {d : Addr} {Q : VK} (m : List (Tx0 × β)) (c : Tx0 × β → Bool) (e : Tx0 × β → V)
    (ht : ∀ H R, R (.ref d) H → td σ H R) (hd : H d = some (.dK (dV f m))) (hz : m.length ≤ 10000)
    (hs : ∀ od D, H D = none → D ≠ d → ∀ p ∈ m, ∀ acc (Nx : Hp → Prop), acc.length < sizeLine → (c p = true → Nx (upd (upd H d (.frz od (.dK (dV f m)))) D (.lst (acc ++ [e p])))) → (c p = false → Nx (upd (upd H d (.frz od (.dK (dV f m)))) D (.lst acc))) →
      g (tv p.1) (wipe σ vs) (upd (upd H d (.frz od (.dK (dV f m)))) D (.lst acc)) fun σ2 H2 => wipe σ2 vs = wipe σ vs ∧ tt σ2 H2 fun b H3 =>
        if b = true then te σ2 H3 fun y H4 => ∃ acc, H4 D = some (.lst acc) ∧ acc.length < sizeLine ∧ Nx (upd H4 D (.lst (acc ++ [y]))) else Nx H3)
    (hq : ∀ D, H D = none → Q (.ref D) (upd H D (.lst ((m.filter c).map e)))) : tLockE (tLc (iKeys td) g tt te vs) σ H Q := by
  have h3 : sizeLine = 16777216 := sizeLine_eq
  refine ⟨d, _, hd, trivial, fun od => ht _ _ ⟨d, od, rfl, .inl ⟨_, upd_same, fun D hD => ?_⟩⟩⟩
  have hne : D ≠ d := by
    rintro rfl
    rw [upd_same] at hD
    cases hD
  have hD0 : H D = none := by rw [upd_ne hne] at hD; exact hD
  refine lc_pure m (fun p => tv p.1) c e (G := fun H => H d = some (.frz od (.dK (dV f m)))) ?_ (fun acc => by rw [upd_ne hne.symm, upd_same]) (by omega) (hs od D hD0 hne) ?_
  · have := (walk_keys (d := d) (o := od) (kvs := dV f m)).mono (G' := fun H => H d = some (.frz od (.dK (dV f m)))) (Y' := fun i H x H' => H' = H ∧ ∃ a, m[i]? = some a ∧ x = tv a.1) (fun _ h => h) fun i H x H' _ _ y => ⟨y.1, by
      obtain ⟨_, k, v, h1, h2⟩ := y
      unfold dV at h1
      rw [List.getElem?_map] at h1
      obtain ⟨b, h3, h4⟩ := Option.map_eq_some_iff.mp h1
      cases h4
      exact ⟨b, h3, h2⟩⟩
    rw [dV_length] at this
    exact this
  · refine ⟨by rw [upd_ne hne.symm, upd_same], ?_⟩
    rw [upd_lock hd hne]
    exact hq D hD0
/-- reading within the lock -/
theorem dget_frz {β : Type} {f : β → V} {H : Hp} {d D : Addr} {od : Obj} {acc : List V} {m : List (Tx0 × β)} (ne : D ≠ d) (k : Tx0) : DGet (upd (upd H d (.frz od (.dK (dV f m)))) D (.lst acc)) d (tv k) ((getA m k).map f) :=
  .inl ⟨dV f m, kx k, .inr ⟨od, by rw [upd_ne ne.symm, upd_same]⟩, rfl, (valV_dV f k m).symm⟩
theorem dget_A {β : Type} {f : β → V} {H : Hp} {d : Addr} {m : List (Tx0 × β)} (h : H d = some (.dK (dV f m))) (k : Tx0) : DGet H d (tv k) ((getA m k).map f) :=
  .inl ⟨dV f m, kx k, .inl h, rfl, (valV_dV f k m).symm⟩
end K75
-- part M1
set_option Elab.async false
set_option linter.all false
set_option maxRecDepth 100000
set_option maxHeartbeats 4000000
namespace K75
open PySem PySem.Spec PyProof.Rows L2
/-! ### what a cutter tells -/
abbrev Tb := List (Tx0 × Tx0)
abbrev pcs (bk : Bk) : List Tx0 := bk.map (·.1)
structure Pl where
  order : List Tx0
  span : Nat
  rows : Tb
  last : Tb
def firstRow (rows : Tb) (w : Tx0) (ss : List Nat) : Option Tx0 := ss.findSome? fun s => getA rows (w.take s)
def tellM (pl : Pl) (w : Tx0) (b : Bool) : Tx0 :=
  match (if b = true then getA pl.last w else none) with
  | some p => p
  | none => match firstRow pl.rows w (List.range' 1 w.length) with
    | some p => p
    | none => ((pl.order.filter fun p => beg p w).head?).getD []
/-- a text over the book -/
def Ov (bk : Bk) (t : Tx0) : Prop := ∀ c ∈ t, [c] ∈ pcs bk
structure GoodTb (bk : Bk) (n : Nat) (m : Tb) : Prop where
  nd : (m.map (·.1)).Nodup
  le : m.length ≤ 3
  ov : ∀ p ∈ m, Ov bk p.1
  ln : ∀ p ∈ m, 1 ≤ p.1.length ∧ p.1.length ≤ n
  pc : ∀ p ∈ m, p.2 ∈ pcs bk
  bg : ∀ p ∈ m, beg p.2 p.1 = true
structure GoodPl (bk : Bk) (pl : Pl) : Prop where
  od : pl.order.Perm (pcs bk)
  s1 : 1 ≤ pl.span
  s2 : pl.span ≤ 2000
  rw : GoodTb bk pl.span pl.rows
  la : GoodTb bk (pl.span - 1) pl.last
theorem ov_lt {bk : Bk} (g : GoodBook bk) {t : Tx0} (h : Ov bk t) : Lt t := fun c hc => by
  obtain ⟨p, hp, e⟩ := List.mem_map.mp (h c hc)
  exact g.lt p hp c (by rw [e]; exact List.mem_cons_self ..)
theorem ov_take {bk : Bk} {t : Tx0} (h : Ov bk t) (n : Nat) : Ov bk (t.take n) := fun c hc => h c (List.mem_of_mem_take hc)
theorem ov_drop {bk : Bk} {t : Tx0} (h : Ov bk t) (n : Nat) : Ov bk (t.drop n) := fun c hc => h c (List.mem_of_mem_drop hc)
theorem ov_app {bk : Bk} {t s : Tx0} (h : Ov bk t) (h2 : Ov bk s) : Ov bk (t ++ s) := fun c hc => (List.mem_append.mp hc).elim (h c) (h2 c)
theorem ov_nil {bk : Bk} : Ov bk [] := fun _ h => by cases h
theorem beg_len {b a : Tx0} (h : beg b a = true) : b.length ≤ a.length := by
  have := congrArg List.length (of_decide_eq_true h)
  rw [List.length_take] at this
  omega
theorem beg_take {b a : Tx0} {n : Nat} (h : beg b (a.take n) = true) : beg b a = true := by
  have h2 := beg_len h
  have h1 := of_decide_eq_true h
  rw [List.length_take] at h2
  rw [List.take_take, Nat.min_eq_left (by omega)] at h1
  exact decide_eq_true h1
theorem beg_one {c : Nat} {w : Tx0} : beg [c] (c :: w) = true := decide_eq_true rfl
theorem head_pieces {bk : Bk} {o : List Tx0} (ho : o.Perm (pcs bk)) {w : Tx0} (h : Ov bk w) (hne : w ≠ []) : ∃ p, (o.filter fun p => beg p w).head? = some p ∧ p ∈ pcs bk ∧ beg p w = true := by
  obtain ⟨c, w', rfl⟩ := List.exists_cons_of_ne_nil hne
  have hm : [c] ∈ o.filter fun p => beg p (c :: w') := List.mem_filter.mpr ⟨ho.mem_iff.mpr (h c (List.mem_cons_self ..)), beg_one⟩
  obtain ⟨p, hp⟩ : ∃ p, (o.filter fun p => beg p (c :: w')).head? = some p := by
    cases e : o.filter fun p => beg p (c :: w') with
    | nil => rw [e] at hm; cases hm
    | cons p l => exact ⟨p, rfl⟩
  have := List.mem_filter.mp (List.mem_of_mem_head? (by rw [hp]; rfl))
  exact ⟨p, hp, ho.mem_iff.mp this.1, this.2⟩
theorem tell_ok {bk : Bk} {pl : Pl} (g : GoodPl bk pl) {w : Tx0} (h : Ov bk w) (hne : w ≠ []) (b : Bool) : tellM pl w b ∈ pcs bk ∧ beg (tellM pl w b) w = true := by
  unfold tellM
  cases e1 : (if b = true then getA pl.last w else none) with
  | some p =>
    have : getA pl.last w = some p := by
      cases b
      · cases e1
      · exact e1
    have := getA_some this
    exact ⟨g.la.pc _ this, g.la.bg _ this⟩
  | none =>
    cases e2 : firstRow pl.rows w (List.range' 1 w.length) with
    | some p =>
      obtain ⟨s, hs, e3⟩ := List.exists_of_findSome?_eq_some e2
      have := getA_some e3
      exact ⟨g.rw.pc _ this, beg_take (g.rw.bg _ this)⟩
    | none =>
      obtain ⟨p, hp, h1, h2⟩ := head_pieces g.od h hne
      simp only [hp, Option.getD_some]
      exact ⟨h1, h2⟩
theorem pcs_len {bk : Bk} (g : GoodBook bk) {p : Tx0} (h : p ∈ pcs bk) : 1 ≤ p.length ∧ p.length ≤ 5 := by
  obtain ⟨q, hq, rfl⟩ := List.mem_map.mp h
  exact g.ln q hq
theorem pcs_ov {bk : Bk} (g : GoodBook bk) {p : Tx0} (h : p ∈ pcs bk) : Ov bk p := by
  obtain ⟨q, hq, rfl⟩ := List.mem_map.mp h
  exact g.sg q hq
/-! ### cuts -/
def cutM (pl : Pl) (t : Tx0) : List Tx0 :=
  if h : t = [] then [] else
    tellM pl (t.take pl.span) (decide ((t.take pl.span).length < pl.span)) :: cutM pl (t.drop (max 1 (tellM pl (t.take pl.span) (decide ((t.take pl.span).length < pl.span))).length))
termination_by t.length
decreasing_by
  rw [List.length_drop]
  have : 0 < t.length := List.length_pos_iff.mpr h
  omega
def runM (pl : Pl) (t : Tx0) : List Tx0 × Tx0 :=
  if h : pl.span ≤ t.length ∧ t ≠ [] then
    (tellM pl (t.take pl.span) false :: (runM pl (t.drop (max 1 (tellM pl (t.take pl.span) false).length))).1, (runM pl (t.drop (max 1 (tellM pl (t.take pl.span) false).length))).2)
  else ([], t)
termination_by t.length
decreasing_by
  all_goals
    rw [List.length_drop]
    have : 0 < t.length := List.length_pos_iff.mpr h.2
    omega
theorem cutM_nil (pl : Pl) : cutM pl [] = [] := by
  rw [cutM]
  rfl
theorem take_ne {t : Tx0} {n : Nat} (hn : 1 ≤ n) (h : t ≠ []) : t.take n ≠ [] := by
  obtain ⟨c, t', rfl⟩ := List.exists_cons_of_ne_nil h
  obtain ⟨m, rfl⟩ : ∃ m, n = m + 1 := ⟨n - 1, by omega⟩
  exact List.cons_ne_nil _ _
section
variable {bk : Bk} {pl : Pl}
theorem tell_len (g : GoodBook bk) (gp : GoodPl bk pl) {w : Tx0} (h : Ov bk w) (hne : w ≠ []) (b : Bool) : 1 ≤ (tellM pl w b).length ∧ (tellM pl w b).length ≤ w.length :=
  ⟨(pcs_len g (tell_ok gp h hne b).1).1, beg_len (tell_ok gp h hne b).2⟩
theorem cutM_cons (g : GoodBook bk) (gp : GoodPl bk pl) {t : Tx0} (h : Ov bk t) (hne : t ≠ []) {p : Tx0} (hp : p = tellM pl (t.take pl.span) (decide ((t.take pl.span).length < pl.span))) : cutM pl t = p :: cutM pl (t.drop p.length) := by
  rw [cutM, dif_neg hne, ← hp]
  have := (tell_len g gp (ov_take h pl.span) (take_ne gp.s1 hne) (decide ((t.take pl.span).length < pl.span))).1
  rw [← hp] at this
  rw [Nat.max_eq_right this]
theorem runM_stop {t : Tx0} (h : t.length < pl.span) : runM pl t = ([], t) := by
  rw [runM, dif_neg (by omega)]
theorem runM_cons (g : GoodBook bk) (gp : GoodPl bk pl) {t : Tx0} (h : Ov bk t) (hs : pl.span ≤ t.length) {p : Tx0} (hp : p = tellM pl (t.take pl.span) false) : runM pl t = (p :: (runM pl (t.drop p.length)).1, (runM pl (t.drop p.length)).2) := by
  have h1 := gp.s1
  have hne : t ≠ [] := by
    rintro rfl
    simp at hs
    omega
  rw [runM, dif_pos ⟨hs, hne⟩, ← hp]
  have := (tell_len g gp (ov_take h pl.span) (take_ne gp.s1 hne) false).1
  rw [← hp] at this
  rw [Nat.max_eq_right this]
/-- by induction on the length, one piece each -/
theorem run_ind (g : GoodBook bk) (gp : GoodPl bk pl) {C : Tx0 → Prop} (h0 : ∀ t, Ov bk t → t.length < pl.span → C t)
    (h1 : ∀ t p, Ov bk t → pl.span ≤ t.length → p = tellM pl (t.take pl.span) false → p ∈ pcs bk → beg p t = true → 1 ≤ p.length → p.length ≤ pl.span → C (t.drop p.length) → C t) : ∀ n t, t.length ≤ n → Ov bk t → C t := by
  intro n
  induction n with
  | zero =>
    intro t hn ho
    have := gp.s1
    exact h0 t ho (by omega)
  | succ n ih =>
    intro t hn ho
    by_cases hs : pl.span ≤ t.length
    · have hs1 := gp.s1
      have hne : t ≠ [] := by
        rintro rfl
        simp at hs
        omega
      have ok := tell_ok gp (ov_take ho pl.span) (take_ne gp.s1 hne) false
      have ln := tell_len g gp (ov_take ho pl.span) (take_ne gp.s1 hne) false
      rw [List.length_take] at ln
      refine h1 t _ ho hs rfl ok.1 (beg_take ok.2) ln.1 (by omega) (ih _ ?_ (ov_drop ho _))
      rw [List.length_drop]
      omega
    · exact h0 t ho (by omega)
theorem run_ov (g : GoodBook bk) (gp : GoodPl bk pl) {t : Tx0} (h : Ov bk t) : (runM pl t).2.length < pl.span ∧ Ov bk (runM pl t).2 ∧ (∀ p ∈ (runM pl t).1, p ∈ pcs bk) ∧ (runM pl t).1.flatten ++ (runM pl t).2 = t := by
  refine run_ind g gp (C := fun t => (runM pl t).2.length < pl.span ∧ Ov bk (runM pl t).2 ∧ (∀ p ∈ (runM pl t).1, p ∈ pcs bk) ∧ (runM pl t).1.flatten ++ (runM pl t).2 = t) ?_ ?_ t.length t (Nat.le_refl _) h
  · intro t ho hl
    rw [runM_stop hl]
    exact ⟨hl, ho, (fun _ h => by cases h), rfl⟩
  · intro t p ho hs hp hm hb h1 h2 ⟨i1, i2, i3, i4⟩
    rw [runM_cons g gp ho hs hp]
    refine ⟨i1, i2, fun q hq => ?_, ?_⟩
    · rcases List.mem_cons.mp hq with e | hq
      · rw [e]; exact hm
      · exact i3 q hq
    · have e := of_decide_eq_true hb
      rw [List.flatten_cons, List.append_assoc, i4]
      conv => lhs; lhs; rw [e]
      exact List.take_append_drop _ _
theorem run_app (g : GoodBook bk) (gp : GoodPl bk pl) {t s : Tx0} (h : Ov bk t) (h2 : Ov bk s) : runM pl (t ++ s) = ((runM pl t).1 ++ (runM pl ((runM pl t).2 ++ s)).1, (runM pl ((runM pl t).2 ++ s)).2) := by
  refine run_ind g gp (C := fun t => runM pl (t ++ s) = ((runM pl t).1 ++ (runM pl ((runM pl t).2 ++ s)).1, (runM pl ((runM pl t).2 ++ s)).2)) ?_ ?_ t.length t (Nat.le_refl _) h
  · intro t ho hl
    rw [runM_stop hl]
    rfl
  · intro t p ho hs hp hm hb h1 h3 ih
    have e1 : p = tellM pl ((t ++ s).take pl.span) false := by rw [List.take_append_of_le_length hs]; exact hp
    rw [runM_cons g gp ho hs hp, runM_cons g gp (ov_app ho h2) (by rw [List.length_append]; omega) e1, List.drop_append_of_le_length (by omega), ih]
    rfl
theorem cut_run (g : GoodBook bk) (gp : GoodPl bk pl) {t : Tx0} (h : Ov bk t) : cutM pl t = (runM pl t).1 ++ cutM pl (runM pl t).2 := by
  refine run_ind g gp (C := fun t => cutM pl t = (runM pl t).1 ++ cutM pl (runM pl t).2) ?_ ?_ t.length t (Nat.le_refl _) h
  · intro t ho hl
    rw [runM_stop hl]
    rfl
  · intro t p ho hs hp hm hb h1 h3 ih
    have hne : t ≠ [] := by
      rintro rfl
      have := gp.s1
      simp at hs
      omega
    have e1 : p = tellM pl (t.take pl.span) (decide ((t.take pl.span).length < pl.span)) := by
      rw [List.length_take, decide_eq_false (by omega)]
      exact hp
    rw [cutM_cons g gp ho hne e1, runM_cons g gp ho hs hp, ih]
    rfl
theorem cut_ok (g : GoodBook bk) (gp : GoodPl bk pl) : ∀ n (t : Tx0), t.length ≤ n → Ov bk t → (∀ p ∈ cutM pl t, p ∈ pcs bk) ∧ (cutM pl t).flatten = t := by
  intro n
  induction n with
  | zero =>
    intro t hn ho
    have e : t = [] := List.length_eq_zero_iff.mp (by omega)
    subst e
    rw [cutM_nil]
    exact ⟨(fun _ h => by cases h), rfl⟩
  | succ n ih =>
    intro t hn ho
    by_cases hne : t = []
    · subst hne
      rw [cutM_nil]
      exact ⟨(fun _ h => by cases h), rfl⟩
    · have ok := tell_ok gp (ov_take ho pl.span) (take_ne gp.s1 hne) (decide ((t.take pl.span).length < pl.span))
      have ln := tell_len g gp (ov_take ho pl.span) (take_ne gp.s1 hne) (decide ((t.take pl.span).length < pl.span))
      rw [cutM_cons g gp ho hne rfl]
      generalize tellM pl (t.take pl.span) (decide ((t.take pl.span).length < pl.span)) = p at ok ln
      rw [List.length_take] at ln
      obtain ⟨i1, i2⟩ := ih (t.drop p.length) (by rw [List.length_drop]; omega) (ov_drop ho _)
      refine ⟨fun q hq => ?_, ?_⟩
      · rcases List.mem_cons.mp hq with e | hq
        · rw [e]; exact ok.1
        · exact i1 q hq
      · have e := of_decide_eq_true (beg_take ok.2)
        rw [List.flatten_cons, i2]
        conv => lhs; lhs; rw [e]
        exact List.take_append_drop _ _
end
end K75
-- part R2
set_option Elab.async false
set_option linter.all false
set_option maxRecDepth 100000
set_option maxHeartbeats 4000000
namespace K75
open PySem PySem.Spec PyProof.Rows L2
theorem sIx_nat (n d i : Nat) : HT.sIx n d (some (i : Int)) = min i n := by
  unfold HT.sIx
  simp
  omega
theorem cut_to (t : Tx0) (n : Nat) : Txt.slice (SX.S t) none (some (n : Int)) = SX.S (t.take n) := by
  rw [SX.slice_to (by omega), Int.toNat_natCast]
theorem cut_from (t : Tx0) (n : Nat) : Txt.slice (SX.S t) (some (n : Int)) none = SX.S (t.drop n) := by
  rw [SX.slice_from (by omega), Int.toNat_natCast]
theorem cut_mid (t : Tx0) (i j : Nat) : Txt.slice (SX.S t) (some (i : Int)) (some (j : Int)) = SX.S ((t.drop i).take (j - i)) := by
  rw [← C8.cutS_slice]
  unfold cutS
  rw [sIx_nat, sIx_nat, SX.S_len]
  refine TL.ext_tl ?_
  show (t.drop (min i t.length)).take (min j t.length - min i t.length) = (t.drop i).take (j - i)
  by_cases hi : i ≤ t.length
  · rw [Nat.min_eq_left hi]
    by_cases hj : j ≤ t.length
    · rw [Nat.min_eq_left hj]
    · rw [Nat.min_eq_right (by omega), List.take_of_length_le (by rw [List.length_drop]; omega), List.take_of_length_le (by rw [List.length_drop]; omega)]
  · have hi2 : t.length ≤ i := by omega
    rw [Nat.min_eq_right hi2, List.drop_eq_nil_of_le (Nat.le_refl _), List.drop_eq_nil_of_le hi2, List.take_nil, List.take_nil]
def rSlT : V → Option Int → Option Int → Hp → VK → Prop := fun x lo hi H Q => ∃ t : Tx0, x = tv t ∧ t.length ≤ sizeLine ∧
  ((lo = none ∧ ∃ n : Nat, hi = some (n : Int) ∧ Q (tv (t.take n)) H) ∨ (hi = none ∧ ∃ n : Nat, lo = some (n : Int) ∧ Q (tv (t.drop n)) H) ∨ ∃ i j : Nat, lo = some (i : Int) ∧ hi = some (j : Int) ∧ Q (tv ((t.drop i).take (j - i))) H)
theorem sl_tx {X : Cx} : SlR X rSlT := by
  intro pins s σ H x v vl vu lo hi sl Q I rx hs pl pu h
  obtain ⟨t, hx, hz, q⟩ := h
  refine C8.sl_txt pins s σ H x v vl vu lo hi sl Q I rx hs pl pu ⟨SX.S t, hx, by rw [SX.S_len]; exact hz, ?_⟩
  rcases q with ⟨rfl, n, rfl, q⟩ | ⟨rfl, n, rfl, q⟩ | ⟨i, j, rfl, rfl, q⟩
  · rw [cut_to]; exact q
  · rw [cut_from]; exact q
  · rw [cut_mid]; exact q
/-- len(text) -/
def rLenT : List V → Hp → VK → Prop := fun xs H Q => ∃ t : Tx0, xs = [tv t] ∧ t.length ≤ sizeLine ∧ Q (.int t.length) H
theorem call_lenT {X : Cx} : CallR X (.builtin "len") rLenT := by
  intro pins s σ H xs us Q I r h
  obtain ⟨t, rfl, hz, q⟩ := h
  exact call_len pins s σ H _ us Q I r ⟨tv t, t.length, rfl, ⟨by rw [SX.S_len]; exact hz, (SX.S_len t).symm⟩, q⟩
theorem ix_listK {X : Cx} {K : PySem.W.Frag} (h : X.K = K) : IxR X (rIxL K) := by
  subst h
  exact ix_list
theorem ix_tupK {X : Cx} {K : PySem.W.Frag} (h : X.K = K) : IxR X (rIxT K) := by
  subst h
  exact ix_tup
theorem cr_minZ {X : Cx} {K : PySem.W.Frag} (h : X.K = K) (hc : X.calm = true) : CallR X (.builtin "min") (rMin K) := by
  subst h
  exact cr_min hc
end K75
-- part R3
set_option Elab.async false
set_option linter.all false
set_option maxRecDepth 100000
set_option maxHeartbeats 4000000
namespace K75
open PySem PySem.Spec PyProof.Rows L2
/-- a method with a meaning for the language: its promise -/
def Spc (P : Program) (w : World) (K : PySem.W.Frag) (mg : Str → Option Value) (base : Heap) (k : Nat) (C : Addr) (m : Str) (sp : Sp) : Prop :=
  ∃ f, PySem.W.findIn K (.ref C) m = some (some (.ref f)) ∧ PySem.W.isFn K (.ref f) = true ∧ FnR P w K mg base CX0 k f sp
section
variable {X : Cx} {k j : Nat} {C : Addr} {sp : Sp}
theorem ins_at {pins : List (Addr × Obj)} {σ : L2.St} {H : Hp} {s : Shared} {a dx : Addr} {fs : List (Str × V)} (I : Inv X pins σ H s) (h : H a = some (.ins C dx fs)) : ∃ ox od, PySem.W.InstAt s.heap a ox C od := by
  obtain ⟨mA, J, _⟩ := ins_get I.hok h
  obtain ⟨od, J, _⟩ := J.look
  exact ⟨_, _, J⟩
/-- a == b by the class's own method -/
def rEqO (C : Addr) (sp : Sp) (g : Bool → Bool) : R2 := fun x y H Q => ∃ a b dx dy fs gs, x = .ref a ∧ y = .ref b ∧ H a = some (.ins C dx fs) ∧ H b = some (.ins C dy gs) ∧ sp [.ref a, .ref b] H (fun v H' => ∃ c, v = .bl c ∧ Q (.bl (g c)) H') E0
theorem op_eqO (c : Spc X.prog X.w X.K X.mg X.base k C "__eq__" sp) (hr : Room j X.A) (hk : k ≤ j) : OpR X (compareOp .Eq) (rEqO C sp id) := by
  intro pins s σ H x y v u Q I rx ry h
  obtain ⟨a, b, dx, dy, fs, gs, rfl, rfl, ha, hb, h⟩ := h
  cases rx
  cases ry
  obtain ⟨f, hs, hf, F⟩ := c
  obtain ⟨ox, od, J⟩ := ins_at I ha
  obtain ⟨oy, ody, J'⟩ := ins_at I hb
  obtain ⟨m, hF⟩ := I.fr
  show wpAny (model X.prog X.w) X.A (richCompare .Eq (.ref a) (.ref b)) (EP X pins σ Q) X.xe s
  refine PySem.W.cmp_K (op := .Eq) (tb := .ref C) hr.units0 hF I.ok.mod.kin J J'.type (by simp [PySem.W.notFirst]) hs hf ?_
  refine wpAny_call (codeAny_mono (run_fnR (us := [.ref a, .ref b]) (vs := [.ref a, .ref b]) F (hr.mono hk) pass0 I (.cons rfl (.cons rfl .nil)) h) fun r s' hq => ?_)
  cases r with
  | error e => exact hq
  | ok fl =>
    cases fl with
    | ret u =>
      obtain ⟨v, H', I', rv, c, rfl, q⟩ := hq
      obtain rfl : u = Value.bool c := rv
      exact ⟨.bl c, H', I', rfl, q⟩
    | next => exact False.elim hq
    | brk => exact False.elim hq
    | cont => exact False.elim hq
theorem ne_plain : plainId "object.__ne__" = true := by decide +kernel
theorem ne_bind (self : Value) : bindSpecial (.builtin "object.__ne__") self = pure (.builtin "object.__ne__", [self]) :=
  (Slot.of (T := "object") (name := "__ne__") (owner := "object") (n := "__ne__") (by rw [typeLookup_type, builtinLookup_eq_fast]; kernel_rfl) (by decide +kernel) (by decide +kernel) (by decide +kernel)
    (.inl (by decide +kernel)) (by rw [isSubtype_type]; kernel_rfl)).bind self
/-- a != b, where the class has its own == and object's != -/
structure NeC (K : PySem.W.Frag) (C : Addr) : Prop where
  ne : PySem.W.findIn K (.ref C) "__ne__" = some (some (.builtin "object.__ne__"))
  ob : PySem.W.subIn K (.ref C) (.type "object") = some true
theorem op_neO (c : Spc X.prog X.w X.K X.mg X.base k C "__eq__" sp) (n : NeC X.K C) (hr : Room j X.A) (hk : k + 1 ≤ j) : OpR X (compareOp .NotEq) (rEqO C sp not) := by
  intro pins s σ H x y v u Q I rx ry h
  obtain ⟨a, b, dx, dy, fs, gs, rfl, rfl, ha, hb, h⟩ := h
  cases rx
  cases ry
  obtain ⟨f, hs, hf, F⟩ := c
  obtain ⟨ox, od, J⟩ := ins_at I ha
  obtain ⟨oy, ody, J'⟩ := ins_at I hb
  have K1 := I.kIn
  have hu := hr.units
  have eqc : wpAny (model X.prog X.w) X.A.in1 (call (.ref f) [.ref a, .ref b]) (fun v s' => ∃ c, v = .bool c ∧ EP X pins σ Q (.bool (!c)) s') X.xe s := by
    refine wpAny_call (codeAny_mono (F X.A.in1 X.stack s H [.ref a, .ref b] [.ref a, .ref b] _ E0 ((hr.mono hk).in1) I.env0.in1 (.cons rfl (.cons rfl .nil)) h) fun r s' hq => ?_)
    cases r with
    | error e => exact pass0 pins σ H s e s' I hq
    | ok fl =>
      cases fl with
      | ret u =>
        obtain ⟨v, H', I', rv, c, rfl, q⟩ := I.after hq
        obtain rfl : u = Value.bool c := rv
        exact ⟨c, rfl, .bl (!c), H', I', rfl, q⟩
      | next => exact False.elim hq
      | brk => exact False.elim hq
      | cont => exact False.elim hq
  have body : wpAny (model X.prog X.w) X.A (call (.builtin "object.__ne__") ([.ref a] ++ [.ref b])) (fun v s' => ∃ c, v = .bool c ∧ EP X pins σ Q v s') X.xe s := by
    refine wpAny_call (codeAny_call_builtin ne_plain PySem.F.cmpEntry_ne (PySem.W.check_slot PySem.F.cmpKind_ne PySem.F.cmpSplit_ne ?_ (PySem.F.cmpArgs_ne _ _) ?_))
    · exact J.type.andThen (PySem.W.looks_subIn K1 n.ob)
    · unfold Builtin.«object.__ne__»
      have hu1 : X.A.in1.units < cLine := by show X.A.units + 1 < cLine; omega
      repeat (first
        | with_reducible refine wpAny_cRoomFor hu1 ?_
        | (refine wpAny_bind (m := callSpecialIfBound? (.ref a) (Str.ofString "__eq__") [.ref b])
            (PySem.W.ifBound_K K1 J hs hf (wpAny_mono eqc (fun r s' hr => by
              obtain ⟨c, rfl, hq⟩ := hr
              repeat (first | exact ⟨_, rfl, hq⟩ | exact wpAny_pure ⟨_, rfl, hq⟩ | exact wpAny_truthy_bool ⟨_, rfl, hq⟩ | (refine wpAny_bind (m := truthy (.bool _)) (wpAny_truthy_bool ?_)) | wp_step)) fun _ _ e => e)))
        | wp_step)
  have fin : wpAny (model X.prog X.w) X.A (call (.builtin "object.__ne__") ([.ref a] ++ [.ref b]) >>= fun v => pure (some v)) (fun r s' => ∃ c, r = some (.bool c) ∧ EP X pins σ Q (.bool c) s') X.xe s :=
    wpAny_bind (wpAny_mono body (fun v s' h' => by
      obtain ⟨c, rfl, hq⟩ := h'
      exact wpAny_pure ⟨c, rfl, hq⟩) fun _ _ h' => h')
  have sp1 : wpAny (model X.prog X.w) X.A (callSpecialIfBound? (.ref a) "__ne__" [.ref b]) (fun r s' => ∃ c, r = some (.bool c) ∧ EP X pins σ Q (.bool c) s') X.xe s := by
    simp only [callSpecialIfBound?, bindSpecialIfBound?]
    refine wpAny_holding (wpAny_bind (wpAny_bind (wpAny_bind (J.type.here ((PySem.W.looks_findIn K1 n.ne).here ?_)))))
    simp only [ne_bind]
    refine wpAny_bind (wpAny_askSetting (wpAny_ite ?_))
    split
    · exact wpAny_bind (wpAny_pure (wpAny_pure fin))
    · exact wpAny_tryCatch (wpAny_bind (wpAny_pure (wpAny_pure fin)))
  have one : wpAny (model X.prog X.w) X.A (tryCompare (.ref a) "__ne__" (.ref b)) (fun r s' => ∃ c, r = some (.bool c) ∧ EP X pins σ Q (.bool c) s') X.xe s := by
    simp only [tryCompare]
    refine wpAny_bind (wpAny_mono sp1 (fun r s' hr => ?_) fun _ _ e => e)
    obtain ⟨c, rfl, hq⟩ := hr
    exact wpAny_pure ⟨c, rfl, hq⟩
  show wpAny (model X.prog X.w) X.A (richCompare .NotEq (.ref a) (.ref b)) (EP X pins σ Q) X.xe s
  unfold richCompare
  simp only [oneThing_ref]
  refine wpAny_holding (wpAny_bind (wpAny_cRoomFor hr.units0 ?_))
  rw [cmpInfo_NotEq]
  dsimp only
  refine wpAny_bind (J.type.here (wpAny_bind (J'.type.here ?_)))
  rw [if_neg (by simp)]
  refine wpAny_bind (wpAny_pure ?_)
  simp only [Bool.false_eq_true, if_false]
  refine wpAny_bind (wpAny_mono one (fun r s' z => ?_) fun _ _ e => e)
  obtain ⟨c, rfl, hq⟩ := z
  exact wpAny_pure hq
/-- len(a) by the class's own method -/
def rLenO (C : Addr) (sp : Sp) : List V → Hp → VK → Prop := fun xs H Q => ∃ a dx fs, xs = [.ref a] ∧ H a = some (.ins C dx fs) ∧ sp [.ref a] H (fun v H' => ∃ n : Nat, v = .int n ∧ n < 2 ^ 62 ∧ Q (.int n) H') E0
theorem cr_lenO (c : Spc X.prog X.w X.K X.mg X.base k C "__len__" sp) (hr : Room j X.A) (hk : k + 1 ≤ j) : CallR X (.builtin "len") (rLenO C sp) := by
  intro pins s σ H xs us Q I r h
  obtain ⟨a, dx, fs, rfl, ha, h⟩ := h
  obtain rfl := Vals.ref1 r
  obtain ⟨f, hs, hf, F⟩ := c
  obtain ⟨ox, od, J⟩ := ins_at I ha
  obtain ⟨m, hF⟩ := I.fr
  refine PySem.W.len_K hF I.ok.mod.kin J hs hf (wpAny_call (codeAny_mono (F X.A.in1 X.stack s H [.ref a] [.ref a] _ E0 ((hr.mono hk).in1) I.env0.in1 (.cons rfl .nil) h) fun r s' hq => ?_))
  cases r with
  | error e => exact pass0 pins σ H s e s' I hq
  | ok fl =>
    cases fl with
    | ret u =>
      obtain ⟨v, H', I', rv, n, rfl, hn, q⟩ := I.after hq
      obtain ⟨t, rfl⟩ := rv
      exact ⟨⟨by omega, by omega⟩, .int n, H', I'.tok _, ⟨_, rfl⟩, q⟩
    | next => exact False.elim hq
    | brk => exact False.elim hq
    | cont => exact False.elim hq
/-- bool(a) by the class's own method -/
def rBoolO (C : Addr) (sp : Sp) : List V → Hp → VK → Prop := fun xs H Q => ∃ a dx fs, xs = [.ref a] ∧ H a = some (.ins C dx fs) ∧ sp [.ref a] H (fun v H' => ∃ c, v = .bl c ∧ Q (.bl c) H') E0
theorem bool_plain : plainId "bool.__new__" = true := by decide +kernel
theorem cr_boolO (c : Spc X.prog X.w X.K X.mg X.base k C "__bool__" sp) (hr : Room j X.A) (hk : k + 2 ≤ j) : CallR X (.type "bool") (rBoolO C sp) := by
  intro pins s σ H xs us Q I r h
  obtain ⟨a, dx, fs, rfl, ha, h⟩ := h
  obtain rfl := Vals.ref1 r
  obtain ⟨f, hs, hf, F⟩ := c
  obtain ⟨ox, od, J⟩ := ins_at I ha
  obtain ⟨m, hF⟩ := I.fr
  refine callType_codes (Q₁ := fun obj s₁ => s₁.TypeIs obj "bool" ∧ EP X pins σ Q obj s₁) PySem.F.called_bool (PySem.F.typeCall_bool_1 _) PySem.F.entry_object_init ?_ fun obj s₁ h₁ => ?_
  · refine codeAny_of_tree ?_
    show wpAny _ X.A.in1.in1 (do checkBuiltinCall "bool.__new__" ⟨[.type "bool", .ref a], []⟩; again (.builtin "bool.__new__" ⟨[.type "bool", .ref a], []⟩)) _ _ s
    refine wpAny_bind (wpAny_of_eq (PySem.F.newCall_bool_1 _) (wpAny_pure ⟨plainId_quiet bool_plain _, codeAny_builtin PySem.F.entry_bool_new ?_⟩))
    rw [Around.under_plainId bool_plain _]
    have tr : wpAny (model X.prog X.w) X.A.in1.in1 (truthy (.ref a)) (fun b s' => EP X pins σ Q (.bool b) s') X.xe s := by
      refine PySem.W.truthy_K hF I.ok.mod.kin J hs hf (wpAny_call (codeAny_mono (F X.A.in1.in1 X.stack s H [.ref a] [.ref a] _ E0 ((hr.mono hk).in1.in1) I.env0.in1.in1 (.cons rfl .nil) h) fun r s' hq => ?_))
      cases r with
      | error e => exact pass0 pins σ H s e s' I hq
      | ok fl =>
        cases fl with
        | ret u =>
          obtain ⟨v, H', I', rv, c, rfl, q⟩ := I.after hq
          obtain rfl : u = Value.bool c := rv
          exact ⟨.bl c, H', I', rfl, q⟩
        | next => exact False.elim hq
        | brk => exact False.elim hq
        | cont => exact False.elim hq
    have f1 := PySem.F.conv_sub_bool
    unfold Builtin.«bool.__new__»
    repeat (any_goals (first | assumption | (refine wpAny_bind (m := truthy (.ref a)) (wpAny_mono tr (fun b s' hb => ?_) fun _ _ e => e)) | wp_step))
    exact ⟨rfl, hb⟩
  · exact ⟨h₁.1, PySem.F.args_object_init_2 obj _, object_init_meets PySem.F.called_bool.init.lookup PySem.F.called_bool.made (by decide) X.prog X.w X.A.in1 _ s₁ ⟨h₁.1, rfl, h₁.2⟩⟩
/-- a += y by the class's own method -/
def tIpO (C : Addr) (sp : Sp) : TIp := fun x y H Q => ∃ a dx fs, x = .ref a ∧ H a = some (.ins C dx fs) ∧ sp [.ref a, y] H (fun v H' => ∃ b, v = .ref b ∧ Q (.ref b) H') E0
theorem ip_own (c : Spc X.prog X.w X.K X.mg X.base k C "__iadd__" sp) (hf1 : PySem.W.selfFirst X.K C = true) (hr : Room j X.A) (hk : k ≤ j) : PIp X .Add (tIpO C sp) := by
  intro pins s σ H x y v u Q I rx ry h
  obtain ⟨a, dx, fs, rfl, ha, h⟩ := h
  cases rx
  obtain ⟨f, hs, hf, F⟩ := c
  obtain ⟨ox, od, J⟩ := ins_at I ha
  obtain ⟨m, hF⟩ := I.fr
  refine PySem.W.ksp_inplace (op := .Add) hF I.ok.mod.kin J hf1 hs hf ?_
  refine wpAny_call (codeAny_mono (run_fnR (us := [.ref a, u]) (vs := [.ref a, y]) F (hr.mono hk) pass0 I (.cons rfl (.cons ry .nil)) h) fun r s' hq => ?_)
  cases r with
  | error e => exact hq
  | ok fl =>
    cases fl with
    | ret u =>
      obtain ⟨v, H', I', rv, b, rfl, q⟩ := hq
      obtain rfl : u = Value.ref b := rv
      exact ⟨.ref b, H', I', rfl, q⟩
    | next => exact False.elim hq
    | brk => exact False.elim hq
    | cont => exact False.elim hq
/-- a property by its getter -/
def Prp (P : Program) (w : World) (K : PySem.W.Frag) (mg : Str → Option Value) (base : Heap) (k : Nat) (C : Addr) (m : Str) (sp : Sp) : Prop :=
  ∃ p g fd, Cls K C ∧ PropOf K C m p g ∧ FnOk P w K mg base CX0 k g fd ["self"] sp ∧ Binds K fd ["self"] []
theorem pe_pr {m : Str} {e : Expr} {pos : Pos} {ta : TE} (c : Prp X.prog X.w X.K X.mg X.base k C m sp) (hr : Room j X.A) (hk : k + 1 ≤ j) (he : PE X e ta)
    (hab : attributeBase e m X.env (eval e X.env) = eval e X.env := by rfl) : PE X (.Attribute e m pos) (tProp C sp [] E0 ta) := by
  obtain ⟨p, g, fd, hc, hp, F, b⟩ := c
  exact pe_prop he hc hp F (hr.mono hk) b .nil pass0 hab
/-- an instance that is called -/
def Cll (P : Program) (w : World) (K : PySem.W.Frag) (mg : Str → Option Value) (base : Heap) (k : Nat) (C : Addr) (sp : Sp) : Prop :=
  ∃ g, StX.CallO K C g ∧ FnR P w K mg base CX0 k g sp
theorem pe_cl {fe e : Expr} {es : List Expr} {pos : Pos} {tf : TE} {t : TA} (c : Cll X.prog X.w X.K X.mg X.base k C sp) (hr : Room j X.A) (hk : k ≤ j) (hf : PE X fe tf) (ha : PA X (e :: es) t)
    (ht : eval (.Call fe (e :: es) [] pos) X.env = (do callWith pos (← eval fe X.env) [] (backTo pos (starEach (e :: es) X.env)) (backToKw pos (keywordEach [] X.env))) := by rfl)
    (he : starEach (e :: es) X.env = (false, eval e X.env) :: starEach es X.env := by rfl) (hpl : (backTo pos (starEach es X.env)).any (·.1) = false := by rfl) : PE X (.Call fe (e :: es) [] pos) (StX.tCallO X C sp E0 tf t) := by
  obtain ⟨g, hc, F⟩ := c
  exact StX.pe_callO hf hc F (hr.mono hk) pass0 ha ht he hpl
/-- a classmethod called through the class's name -/
def Cmt (P : Program) (w : World) (K : PySem.W.Frag) (mg : Str → Option Value) (base : Heap) (k : Nat) (C : Addr) (m : Str) (sp : Sp) : Prop :=
  ∃ mc p g, ClX.CRead K C mc ∧ ClX.CMet K C mc m p g ∧ FnR P w K mg base CX0 k g sp
theorem pe_cm {m : Str} {o e : Expr} {es : List Expr} {apos pos : Pos} {pl : Sem Bool} {ta : TE} {t : TA} (c : Cmt X.prog X.w X.K X.mg X.base k C m sp) (hr : Room j X.A) (hk : k ≤ j) (he : PE X o ta) (ha : PA X (e :: es) t)
    (hst : starEach (e :: es) X.env = (false, eval e X.env) :: starEach es X.env := by rfl) (hpl : (backTo pos (starEach es X.env)).any (·.1) = false := by rfl)
    (ht : eval (.Call (.Attribute o m apos) (e :: es) [] pos) X.env = (do
      let ov ← eval o X.env
      standAt apos.atName
      let (f, first) ← holding [ov] (getMethod ov m pl)
      callWith pos f first (backTo pos (starEach (e :: es) X.env)) (backToKw pos (keywordEach [] X.env))) := by rfl) : PE X (.Call (.Attribute o m apos) (e :: es) [] pos) (ClX.tCMeth C sp E0 ta t) := by
  obtain ⟨mc, p, g, h1, h2, F⟩ := c
  exact ClX.pe_cmeth he h1 h2 F (hr.mono hk) pass0 ha hst hpl ht
end
end K75
-- part B2
set_option Elab.async false
set_option linter.all false
set_option maxRecDepth 100000
set_option maxHeartbeats 4000000
namespace K75
open PySem PySem.Spec PyProof.Rows L2
/-- a class that is made: its __init__ -/
def MakF (K : PySem.W.Frag) (mg : Str → Option Value) (C : Addr) (x qual : Str) (st : Stmt) (kws : List (Str × V)) : Prop :=
  ∃ f fd, Mk K C f ∧ FunD K "__init__" qual (defArgs st) (defBody st) (defScope st) [] kws f fd ∧ mg x = some (.ref C)
/-- a method with a meaning for the language -/
def SpcF (K : PySem.W.Frag) (C : Addr) (m qual : Str) (st : Stmt) : Prop :=
  ∃ f fd, PySem.W.findIn K (.ref C) m = some (some (.ref f)) ∧ PySem.W.isFn K (.ref f) = true ∧ FunD K m qual (defArgs st) (defBody st) (defScope st) [] [] f fd
/-- a property -/
def PrpF (K : PySem.W.Frag) (C : Addr) (m qual : Str) (st : Stmt) : Prop :=
  ∃ p g fd, PropOf K C m p g ∧ FunD K m qual (defArgs st) (defBody st) (defScope st) [] [] g fd
/-- __call__ -/
def CllF (K : PySem.W.Frag) (C : Addr) (qual : Str) (st : Stmt) : Prop :=
  ∃ g fd, StX.CallO K C g ∧ FunD K "__call__" qual (defArgs st) (defBody st) (defScope st) [] [] g fd
/-- a classmethod -/
def CmtF (K : PySem.W.Frag) (C : Addr) (m qual : Str) (st : Stmt) : Prop :=
  ∃ mc p g fd, ClX.CRead K C mc ∧ ClX.CMet K C mc m p g ∧ FunD K m qual (defArgs st) (defBody st) (defScope st) [] [] g fd
section
variable {P : Program} {w : World} {K : PySem.W.Frag} {mg : Str → Option Value} {base : Heap} {m qual : Str} {C : Addr} {st : Stmt} {N ps : List Str} {k : Nat} {sp : Sp}
abbrev BindAll (m qual : Str) (st : Stmt) (ps : List Str) : Prop := ∀ (kV doc pm : Value) (an : Option Addr) (cdv ct : Value) (us : List Value), us.length = ps.length → bindArgs (PySem.W.fnOf m qual (defArgs st) (defBody st) (defScope st) .none kV doc pm an cdv ct) ⟨us, []⟩ = pure (ps.zip us)
abbrev BodyOk (P : Program) (w : World) (K : PySem.W.Frag) (mg : Str → Option Value) (base : Heap) (qual : Str) (st : Stmt) (N : List Str) (k : Nat) (sp : Sp) : Prop :=
  ∀ (cdv : Value) (A : Around) (outer : List Env) (f : Addr) (s : Shared) (H : Hp) (vs : List V) (Q : VK) (E : XK), Room k (A.deeper (envOfC qual (defScope st) s.heap.objs.size f cdv)) → sp vs H Q E →
      ∃ t, PSs (cxOf CX0 P w K mg base N qual (defScope st) f cdv A outer s H E).nox (defBody st) t ∧ t { nx := fun _ H' => Q .non H', rt := Q } (start N vs) H
theorem fnOk_of {kws : List (Str × V)} {f : Addr} {fd : FuncData} (F : FunD K m qual (defArgs st) (defBody st) (defScope st) [] kws f fd) (S : FnScope N ps (defScope st)) (len : ∀ vs H Q E, sp vs H Q E → vs.length = ps.length) (hbody : BodyOk P w K mg base qual st N k sp) : FnOk P w K mg base CX0 (k + 1) f fd ps sp :=
  F.ok S len fun cdv A outer s H vs Q E hr h => by
    obtain ⟨t, ht, q⟩ := hbody cdv A outer f s H vs Q E hr h
    exact ⟨t, ht.nox, q⟩
theorem fnR_of {f : Addr} {fd : FuncData} (F : FunD K m qual (defArgs st) (defBody st) (defScope st) [] [] f fd) (S : FnScope N ps (defScope st)) (hb : BindAll m qual st ps) (len : ∀ vs H Q E, sp vs H Q E → vs.length = ps.length) (hbody : BodyOk P w K mg base qual st N k sp) : FnR P w K mg base CX0 (k + 1) f sp :=
  ((fnOk_of F S len hbody).raw (F.bindsN hb) .nil).imp fun vs H Q E h => by
    rw [List.append_nil]
    exact h
theorem spc_of (F : SpcF K C m qual st) (S : FnScope N ps (defScope st)) (hb : BindAll m qual st ps) (len : ∀ vs H Q E, sp vs H Q E → vs.length = ps.length) (hbody : BodyOk P w K mg base qual st N k sp) : Spc P w K mg base (k + 1) C m sp := by
  obtain ⟨f, fd, h1, h2, F⟩ := F
  exact ⟨f, h1, h2, fnR_of F S hb len hbody⟩
theorem cll_of (F : CllF K C qual st) (S : FnScope N ps (defScope st)) (hb : BindAll "__call__" qual st ps) (len : ∀ vs H Q E, sp vs H Q E → vs.length = ps.length) (hbody : BodyOk P w K mg base qual st N k sp) : Cll P w K mg base (k + 1) C sp := by
  obtain ⟨g, fd, h1, F⟩ := F
  exact ⟨g, h1, fnR_of F S hb len hbody⟩
theorem cmt_of (F : CmtF K C m qual st) (S : FnScope N ps (defScope st)) (hb : BindAll m qual st ps) (len : ∀ vs H Q E, sp vs H Q E → vs.length = ps.length) (hbody : BodyOk P w K mg base qual st N k sp) : Cmt P w K mg base (k + 1) C m sp := by
  obtain ⟨mc, p, g, fd, h1, h2, F⟩ := F
  exact ⟨mc, p, g, h1, h2, fnR_of F S hb len hbody⟩
theorem prp_of (F : PrpF K C m qual st) (c : Cls K C) (S : FnScope N ["self"] (defScope st)) (hb : BindAll m qual st ["self"]) (len : ∀ vs H Q E, sp vs H Q E → vs.length = 1) (hbody : BodyOk P w K mg base qual st N k sp) : Prp P w K mg base (k + 1) C m sp := by
  obtain ⟨p, g, fd, h1, F⟩ := F
  exact ⟨p, g, fd, c, h1, fnOk_of F S len hbody, F.bindsN hb⟩
theorem mak_of {x : Str} (F : MakF K mg C x qual st []) (S : FnScope N ps (defScope st)) (hb : BindAll "__init__" qual st ps) (len : ∀ vs H Q E, sp vs H Q E → vs.length = ps.length) (hbody : BodyOk P w K mg base qual st N k sp) : C8.Mak P w K mg base (k + 1) x C sp [] := by
  obtain ⟨f, fd, h1, F, h2⟩ := F
  exact ⟨f, fd, ps, [], h1, fnOk_of F S len hbody, h2, F.bindsN hb, .nil⟩
end
/-- a method with keyword-only defaults -/
def MethK (K : PySem.W.Frag) (C : Addr) (m qual : Str) (st : Stmt) (kws : List (Str × V)) : Prop :=
  ∃ f fd, FunD K m qual (defArgs st) (defBody st) (defScope st) [] kws f fd ∧ Meth K C m f
/-- all that the walk asks of the top -/
structure Ty (K : PySem.W.Frag) (mg : Str → Option Value) (CB CC CF : Addr) : Prop extends Tx K mg CB CC CF where
  n_BC : CB ≠ CC
  n_BF : CB ≠ CF
  n_CF : CC ≠ CF
  i_Book : MakF K mg CB "Book" "Book.__init__" s_p_Book___init__ []
  ne_Book : NeC K CB
  is_Book : C8.InsC K CB
  i_Cutter : MakF K mg CC "Cutter" "Cutter.__init__" s_p_Cutter___init__ [("view", .non), ("table", .non), ("ends", .non)]
  ne_Cutter : NeC K CC
  is_Cutter : C8.InsC K CC
  i_Shelf : MakF K mg CF "Shelf" "Shelf.__init__" s_p_Shelf___init__ [("texts", .non)]
  ne_Shelf : NeC K CF
  is_Shelf : C8.InsC K CF
  m_Shelf_undo : MethK K CF "undo" "Shelf.undo" s_p_Shelf_undo [("many", .int 1)]
  m_Shelf_redo : MethK K CF "redo" "Shelf.redo" s_p_Shelf_redo [("many", .int 1)]
  s_Book___eq__ : SpcF K CB "__eq__" "Book.__eq__" s_p_Book___eq__
  s_Cutter___eq__ : SpcF K CC "__eq__" "Cutter.__eq__" s_p_Cutter___eq__
  s_Shelf___eq__ : SpcF K CF "__eq__" "Shelf.__eq__" s_p_Shelf___eq__
  s_Shelf___len__ : SpcF K CF "__len__" "Shelf.__len__" s_p_Shelf___len__
  s_Shelf___str__ : SpcF K CF "__str__" "Shelf.__str__" s_p_Shelf___str__
  p_Shelf_names : PrpF K CF "names" "Shelf.names" s_p_Shelf_names
  p_Shelf_texts : PrpF K CF "texts" "Shelf.texts" s_p_Shelf_texts
  p_Shelf_total : PrpF K CF "total" "Shelf.total" s_p_Shelf_total
  p_Shelf_lag : PrpF K CF "lag" "Shelf.lag" s_p_Shelf_lag
end K75
-- part R4
set_option Elab.async false
set_option linter.all false
set_option maxRecDepth 100000
set_option maxHeartbeats 4000000
namespace K75
open PySem PySem.Spec PyProof.Rows L2
/-! isinstance of built-in kinds -/
section
variable {K : PySem.W.Frag} {H : Hp} {Q : VK}
theorem isi_ib {n : Int} (q : Q (.bl false) H) : rIsi K [.int n, .ty "bool"] H Q := ⟨_, _, _, _, false, rfl, .ty _, .base (.int _), kit_ty (by decide +kernel), q⟩
theorem isi_ii {n : Int} (q : Q (.bl true) H) : rIsi K [.int n, .ty "int"] H Q := ⟨_, _, _, _, true, rfl, .ty _, .base (.int _), kit_ty (by decide +kernel), q⟩
theorem isi_ss {t : Str} (q : Q (.bl true) H) : rIsi K [.str t, .ty "str"] H Q := ⟨_, _, _, _, true, rfl, .ty _, .base (.str _), kit_ty (by decide +kernel), q⟩
theorem isi_dd {a : Addr} {kvs : List (Key × V)} (h : H a = some (.dK kvs)) (q : Q (.bl true) H) : rIsi K [.ref a, .ty "dict"] H Q := ⟨_, _, _, _, true, rfl, .ty _, .base (.dK h), kit_ty (by decide +kernel), q⟩
theorem isi_tt {a : Addr} {xs : List V} (h : H a = some (.tup xs)) (q : Q (.bl true) H) : rIsi K [.ref a, .ty "tuple"] H Q := ⟨_, _, _, _, true, rfl, .ty _, .base (.tup h), kit_ty (by decide +kernel), q⟩
theorem cr_isi {X : Cx} (h : X.K = K) : CallR X (.builtin "isinstance") (rIsi K) := by
  subst h
  exact call_isi
/-- of an own class -/
def rIsC (C : Addr) : List V → Hp → VK → Prop := fun xs H Q => ∃ a dx fs, xs = [.ref a, .ref C] ∧ H a = some (.ins C dx fs) ∧ Q (.bl true) H
theorem cr_isC {X : Cx} {C : Addr} (c : C8.InsC X.K C) : CallR X (.builtin "isinstance") (rIsC C) := C8.call_isC c
theorem op_inK {X : Cx} (h : X.K = K) : OpR X (compareOp .In) (rIn K false) := by
  subst h
  exact op_in_seq
theorem pe_fldK {X : Cx} {e : Expr} {f : Str} {pos : Pos} {ta : TE} (hK : X.K = K) (he : PE X e ta) (hb : attributeBase e f X.env (eval e X.env) = eval e X.env := by rfl) : PE X (.Attribute e f pos) (tFld K ta f) := by
  subst hK
  exact pe_fld he hb
end
theorem iteT' {b : Bool} {p q : Prop} (h : b = true) (x : p) : if b = true then p else q := by rw [if_pos h]; exact x
theorem iteF' {b : Bool} {p q : Prop} (h : b = false) (x : q) : if b = true then p else q := by rw [h, if_neg Bool.false_ne_true]; exact x
end K75
-- part P1
set_option Elab.async false
set_option linter.all false
set_option maxRecDepth 100000
set_option maxHeartbeats 4000000
namespace K75
open PySem PySem.Spec PyProof.Rows L2
theorem gi {mg : Str → Option Value} {x : Str} {i : Int} (h : ∃ t, mg x = some (.int i t)) : ∃ u, mg x = some u ∧ RelV (.int i) u := by
  obtain ⟨t, h⟩ := h
  exact ⟨_, h, t, rfl⟩
/-- a comprehension over a text -/
theorem comp_str {g : TG} {tt : TT} {te : TE} {vs : List Nat} {σ : L2.St} {H1 : Hp} {D : Addr} {Qd : Hp → Prop} (t : Tx0) (c : Nat → Bool) (e : Nat → V) (hz : t.length < sizeLine)
    (hs : ∀ a ∈ t, ∀ acc (Nx : Hp → Prop), acc.length < sizeLine → (c a = true → Nx (upd H1 D (.lst (acc ++ [e a])))) → (c a = false → Nx (upd H1 D (.lst acc))) →
      g (sg a) (wipe σ vs) (upd H1 D (.lst acc)) fun σ2 H2 => wipe σ2 vs = wipe σ vs ∧ tt σ2 H2 fun b H3 =>
        if b = true then te σ2 H3 fun y H4 => ∃ acc, H4 D = some (.lst acc) ∧ acc.length < sizeLine ∧ Nx (upd H4 D (.lst (acc ++ [y]))) else Nx H3)
    (hd : Qd (upd H1 D (.lst ((t.filter c).map e)))) :
    ∃ W : Nat → Nat → Hp → Prop, (∃ m, W 0 m (upd H1 D (.lst []))) ∧ ∀ i m H, W i m H →
      ((Its (SX.S t)).stop i H ∧ Qd H) ∨ ((Its (SX.S t)).go i H ∧ ∃ Nx : Hp → Prop, (∀ H', Nx H' → ∃ m', m' < m ∧ W (i + 1) m' H') ∧ ∀ x H', (Its (SX.S t)).yld i H x H' → g x (wipe σ vs) H' fun σ2 H2 => wipe σ2 vs = wipe σ vs ∧ tt σ2 H2 fun b H3 =>
        if b = true then te σ2 H3 fun y H4 => ∃ acc, H4 D = some (.lst acc) ∧ acc.length < sizeLine ∧ Nx (upd H4 D (.lst (acc ++ [y]))) else Nx H3) :=
  lc_pure t (fun c => sg c) c e (G := fun _ => True) (by
    have := (walk_str (z := SX.S t)).mono (G' := fun _ => True) (Y' := fun i H x H' => H' = H ∧ ∃ a, t[i]? = some a ∧ x = sg a) (fun _ h => h) fun i H x H' _ _ y => ⟨y.1, by
      obtain ⟨_, c, h1, h2⟩ := y
      exact ⟨c, by simpa using h1, h2⟩⟩
    exact this) (fun _ => trivial) hz hs hd
theorem tv_ne {t : Tx0} (h : t ≠ []) : (!decide (tv t = V.str "")) = true := by
  have e : decide (tv t = V.str "") = false := decide_eq_false fun e => h (SX.S_inj (V.str.inj e))
  exact congrArg not e
theorem tv_nil : decide (tv [] = V.str "") = true := rfl
theorem lt_one {c d : Nat} : decide (([c] : List Nat) < [d]) = decide (c < d) := by
  rw [decide_eq_decide, List.cons_lt_cons_iff]
  simp
section
variable {P : Program} {w : World} {K : PySem.W.Frag} {mg : Str → Option Value} {base : Heap} {CB CC CF : Addr}
/-! ### numbers -/
def sp_p_is_integer : Sp := fun vs H Q _ => ∃ n : Int, vs = [.int n] ∧ -1000000 < n ∧ n < 1000000 ∧ Q (.bl true) H
theorem c_p_is_integer (T : Ty K mg CB CC CF) : C8.Cal P w K mg base 1 "is_integer" sp_p_is_integer [] := by
  refine cal_of T.d_p_is_integer sc_p_is_integer (fun _ _ _ _ _ _ us hl => match us, hl with | [_], _ => rfl) (fun vs H Q E h => ?_) (fun cdv A outer f s H vs Q E hr h => ?_)
  · obtain ⟨n, rfl, _⟩ := h
    rfl
  · obtain ⟨n, rfl, h1, h2, q⟩ := h
    refine ⟨_, (pss_cons (ps_if (PW.pt (pw_or (pt_val (pe_callB (cr_isi (K := K) rfl) (by rfl) T.n_isinstance (by decide +kernel) (pa_cons (pv 0) (pa_cons (pe_bltn (v := .ty "bool") (u := .type "bool") (by rfl) T.n_bool (by decide +kernel) rfl) pa_nil)))) (pw_or1 (pt_not (pt_val (pe_callB (cr_isi (K := K) rfl) (by rfl) T.n_isinstance (by decide +kernel) (pa_cons (pv 0) (pa_cons (pe_bltn (v := .ty "int") (u := .type "int") (by rfl) T.n_int (by decide +kernel) rfl) pa_nil))))))))
    (pss_one (ps_ret pe_bl))
    pss_nil)
  (pss_one (ps_ret (pe_cmpR op_lt (pe_callB call_abs (by rfl) T.n_abs (by decide +kernel) (pa_cons (pv 0) pa_nil)) (pe_op op_pow pe_int pe_int) (nomark _))))), ?_⟩
    refine ⟨_, rfl, _, _, _, _, false, rfl, .ty _, .base (.int _), kit_ty (by decide +kernel), _, rfl, _, rfl, _, _, _, _, true, rfl, .ty _, .base (.int _), kit_ty (by decide +kernel), _, rfl, _, rfl, _, rfl, _, _, rfl, rfl, ⟨by decide, by decide, by decide⟩, _, _, rfl, rfl, ?_⟩
    have e : decide ((if n < 0 then -n else n) < (10 : Int) ^ (60 : Int).toNat) = true := by
      have : (1000000 : Int) ≤ (10 : Int) ^ (60 : Int).toNat := by decide
      refine decide_eq_true ?_
      split <;> omega
    show Q (.bl (decide _)) H
    rw [e]
    exact q
def sp_p_is_integer_within : Sp := fun vs H Q _ => ∃ n a b : Int, vs = [.int n, .int a, .int b] ∧ -1000000 < n ∧ n < 1000000 ∧ a ≤ n ∧ n ≤ b ∧ Q (.bl true) H
theorem c_p_is_integer_within (T : Ty K mg CB CC CF) : C8.Cal P w K mg base 2 "is_integer_within" sp_p_is_integer_within [] := by
  refine cal_of T.d_p_is_integer_within sc_p_is_integer_within (fun _ _ _ _ _ _ us hl => match us, hl with | [_, _, _], _ => rfl) (fun vs H Q E h => ?_) (fun cdv A outer f s H vs Q E hr h => ?_)
  · obtain ⟨n, a, b, rfl, _⟩ := h
    rfl
  · obtain ⟨n, a, b, rfl, h1, h2, h3, h4, q⟩ := h
    refine ⟨_, (pss_one (ps_ret (pe_and (C8.pe_c (c_p_is_integer T) hr (by decide) (by rfl) (pa_cons (pv 0) pa_nil)) (pe_one (pe_chain op_le op_le (pv 1) (pv 0) (pv 2)))))), ?_⟩
    refine ⟨_, rfl, n, rfl, h1, h2, _, rfl, ?_⟩
    refine ⟨_, rfl, _, rfl, _, _, rfl, rfl, _, rfl, iteT' (decide_eq_true h3) ⟨_, rfl, _, _, rfl, rfl, ?_⟩⟩
    show Q (.bl (decide _)) H
    rw [decide_eq_true h4]
    exact q
def sp_p_is_price : Sp := fun vs H Q _ => ∃ n : Int, vs = [.int n] ∧ 1 ≤ n ∧ n ≤ 99 ∧ Q (.bl true) H
theorem c_p_is_price (T : Ty K mg CB CC CF) : C8.Cal P w K mg base 3 "is_price" sp_p_is_price [] := by
  refine cal_of T.d_p_is_price sc_p_is_price (fun _ _ _ _ _ _ us hl => match us, hl with | [_], _ => rfl) (fun vs H Q E h => ?_) (fun cdv A outer f s H vs Q E hr h => ?_)
  · obtain ⟨n, rfl, _⟩ := h
    rfl
  · obtain ⟨n, rfl, h1, h2, q⟩ := h
    refine ⟨_, (pss_one (ps_ret (C8.pe_c (c_p_is_integer_within T) hr (by decide) (by rfl) (pa_cons (pv 0) (pa_cons pe_int (pa_cons (C8.pe_gc (v := .int 99) (by rfl) (gi T.g_MAX_PRICE)) pa_nil)))))), ?_⟩
    exact ⟨_, rfl, n, 1, 99, rfl, by omega, by omega, h1, h2, q⟩
def sp_p_is_view : Sp := fun vs H Q _ => ∃ n : Int, vs = [.int n] ∧ 1 ≤ n ∧ n ≤ 2000 ∧ Q (.bl true) H
theorem c_p_is_view (T : Ty K mg CB CC CF) : C8.Cal P w K mg base 2 "is_view" sp_p_is_view [] := by
  refine cal_of T.d_p_is_view sc_p_is_view (fun _ _ _ _ _ _ us hl => match us, hl with | [_], _ => rfl) (fun vs H Q E h => ?_) (fun cdv A outer f s H vs Q E hr h => ?_)
  · obtain ⟨n, rfl, _⟩ := h
    rfl
  · obtain ⟨n, rfl, h1, h2, q⟩ := h
    refine ⟨_, (pss_one (ps_ret (pe_and (C8.pe_c (c_p_is_integer T) hr (by decide) (by rfl) (pa_cons (pv 0) pa_nil)) (pe_one (pe_chain op_le op_le pe_int (pv 0) (C8.pe_gc (v := .int 2000) (by rfl) (gi T.g_MAX_VIEW))))))), ?_⟩
    refine ⟨_, rfl, n, rfl, by omega, by omega, _, rfl, ?_⟩
    refine ⟨_, rfl, _, _, rfl, rfl, _, rfl, iteT' (decide_eq_true h1) ⟨_, _, rfl, rfl, ?_⟩⟩
    show Q (.bl (decide _)) H
    rw [decide_eq_true h2]
    exact q
/-! ### texts -/
def sp_p_is_word : Sp := fun vs H Q _ => ∃ t : Tx0, vs = [tv t] ∧ Lt t ∧ t ≠ [] ∧ t.length ≤ 10000 ∧ ∀ H', Kp [] H H' → Q (.bl true) H'
theorem c_p_is_word (T : Ty K mg CB CC CF) : C8.Cal P w K mg base 1 "is_word" sp_p_is_word [] := by
  refine cal_of T.d_p_is_word sc_p_is_word (fun _ _ _ _ _ _ us hl => match us, hl with | [_], _ => rfl) (fun vs H Q E h => ?_) (fun cdv A outer f s H vs Q E hr h => ?_)
  · obtain ⟨n, rfl, _⟩ := h
    rfl
  · obtain ⟨t, rfl, hl, hne, htl, q⟩ := h
    have h3 : sizeLine = 16777216 := sizeLine_eq
    refine ⟨_, (pss_one (ps_ret (pe_and (pe_callB (cr_isi (K := K) rfl) (by rfl) T.n_isinstance (by decide +kernel) (pa_cons (pv 0) (pa_cons (pe_bltn (v := .ty "str") (u := .type "str") (by rfl) T.n_str (by decide +kernel) rfl) pa_nil))) (pe_and (pe_cmpR op_ne (pv 0) pe_str (nomark _)) (pe_one (pe_callB (cr_all rfl) (by rfl) T.n_all (by decide +kernel) (pa_cons (pe_lc (own := [("letter", 1)]) (g := gName 1) rfl sc_p_is_word.nd (pi_str (pv 0)) (blkOk_by (own := [("letter", 1)]) (N := N_p_is_word) (sc := (defScope s_p_is_word)) (by decide +kernel)) (fun _ _ _ _ _ => (pg_name (i := 1) sc_p_is_word.nd rfl (Or.inl rfl))) (fun _ _ _ _ _ => pts_nil) (fun _ _ _ _ _ => (pe_chain op_le_str op_le_str pe_str (pv 1) pe_str))) pa_nil))))))), ?_⟩
    refine ⟨_, rfl, _, _, _, _, true, rfl, .ty _, .base (.str _), kit_ty (by decide +kernel), _, rfl, ?_⟩
    refine ⟨_, rfl, rfl, _, rfl, ?_⟩
    have hc : (!decide (tv t = V.str "")) = true := tv_ne hne
    refine iteT' hc ⟨_, rfl, _, rfl, fun D hD => ?_⟩
    refine comp_str t (fun _ => true) (fun _ => .bl true) (by omega) ?_ ?_
    · intro c hc acc Nx hz h1 h2
      have := hl c hc
      refine ⟨rfl, _, rfl, _, _, rfl, rfl, _, rfl, iteT' ?_ ⟨_, _, rfl, rfl, acc, upd_same, hz, ?_⟩⟩
      · show (!decide (([c] : List Nat) < [97])) = true
        rw [lt_one, decide_eq_false (by omega)]
        rfl
      · rw [upd_upd]
        have e : (!decide (([122] : List Nat) < [c])) = true := by
          rw [lt_one, decide_eq_false (by omega)]
          rfl
        have := h1 rfl
        rw [← e] at this
        exact this
    · refine ⟨D, t.map fun _ => true, rfl, SqL.of ?_, ?_⟩
      · rw [upd_same, List.map_map, List.filter_eq_self.mpr fun _ _ => rfl]
        rfl
      · have e : (t.map fun _ => true).all id = true := by simp
        show Q (.bl _) _
        rw [e]
        exact q _ ((kp_refl H).up (.inl hD))
end
end K75
-- part P2
set_option Elab.async false
set_option linter.all false
set_option maxRecDepth 100000
set_option maxHeartbeats 4000000
namespace K75
open PySem PySem.Spec PyProof.Rows L2
/-- what may change under others' feet: lists, feeders -/
def Vol (CF : Addr) (o : HO) : Prop := (∃ xs, o = .lst xs) ∨ ∃ dx fs, o = .ins CF dx fs
def VolAt (CF : Addr) (H : Hp) (D : List Addr) : Prop := ∀ x ∈ D, ∃ o, H x = some o ∧ Vol CF o
theorem Kp.vol {CF : Addr} {D : List Addr} {H H' : Hp} (k : Kp D H H') (v : VolAt CF H D) {a : Addr} {o : HO} (h : H a = some o) (n : ¬ Vol CF o) : H' a = some o :=
  k a o h fun hm => by
    obtain ⟨u, e, hv⟩ := v a hm
    rw [h] at e
    cases e
    exact n hv
theorem vol_nil {CF : Addr} {H : Hp} : VolAt CF H [] := fun _ h => by cases h
theorem nv_dK {CF : Addr} {kvs : List (Key × V)} : ¬ Vol CF (.dK kvs) := by rintro (⟨_, e⟩ | ⟨_, _, e⟩) <;> cases e
theorem nv_tup {CF : Addr} {xs : List V} : ¬ Vol CF (.tup xs) := by rintro (⟨_, e⟩ | ⟨_, _, e⟩) <;> cases e
theorem nv_ins {CF C dx : Addr} {fs : List (Str × V)} (h : C ≠ CF) : ¬ Vol CF (.ins C dx fs) := by
  rintro (⟨_, e⟩ | ⟨_, _, e⟩)
  · cases e
  · injection e with e1
    exact h e1
theorem vol_reel {CF : Addr} {H : Hp} {r : Addr} (h : Reel H r) : VolAt CF H [r] := fun x hx => by
  rw [List.mem_singleton.mp hx]
  obtain ⟨a, b, c, e⟩ := h
  exact ⟨_, e, .inl ⟨_, rfl⟩⟩
/-! ### a book -/
def BookO (CB dx d p al : Addr) (lg de : Int) : HO := .ins CB dx [("own_prices", .ref d), ("own_pieces", .ref p), ("own_alphabet", .ref al), ("own_longest", .int lg), ("own_dearest", .int de)]
structure BookAt (CB : Addr) (H : Hp) (a : Addr) (bk : Bk) (dx d p al : Addr) (ac : Tx0) (lg : Nat) (de : Int) : Prop where
  ha : H a = some (BookO CB dx d p al lg de)
  hd : H d = some (.dK (dB bk))
  hp : H p = some (.tup ((pcs bk).map tv))
  hl : H al = some (.tup (ac.map sg))
  hac : ∀ c, c ∈ ac ↔ [c] ∈ pcs bk
  hal : ac.length ≤ 12
  hlg : ∀ t ∈ pcs bk, t.length ≤ lg
  hlg5 : lg ≤ 5
  hlg1 : 1 ≤ lg
  hlgm : ∃ t ∈ pcs bk, t.length = lg
  g : GoodBook bk
  so : Srt (pcs bk)
def BookH (CB : Addr) (H : Hp) (a : Addr) (bk : Bk) : Prop := ∃ dx d p al ac lg de, BookAt CB H a bk dx d p al ac lg de
section
variable {CB CF : Addr} {H H' : Hp} {a : Addr} {bk : Bk} {D : List Addr}
theorem BookAt.kp {dx d p al : Addr} {ac : Tx0} {lg : Nat} {de : Int} (h : BookAt CB H a bk dx d p al ac lg de) (k : Kp D H H') (v : VolAt CF H D) (n : CB ≠ CF) : BookAt CB H' a bk dx d p al ac lg de :=
  ⟨k.vol v h.ha (nv_ins n), k.vol v h.hd nv_dK, k.vol v h.hp nv_tup, k.vol v h.hl nv_tup, h.hac, h.hal, h.hlg, h.hlg5, h.hlg1, h.hlgm, h.g, h.so⟩
theorem BookH.kp (h : BookH CB H a bk) (k : Kp D H H') (v : VolAt CF H D) (n : CB ≠ CF) : BookH CB H' a bk := by
  obtain ⟨dx, d, p, al, ac, lg, de, b⟩ := h
  exact ⟨dx, d, p, al, ac, lg, de, b.kp k v n⟩
theorem BookAt.kp0 {dx d p al : Addr} {ac : Tx0} {lg : Nat} {de : Int} (h : BookAt CB H a bk dx d p al ac lg de) (k : Kp [] H H') : BookAt CB H' a bk dx d p al ac lg de :=
  ⟨k _ _ h.ha (by simp), k _ _ h.hd (by simp), k _ _ h.hp (by simp), k _ _ h.hl (by simp), h.hac, h.hal, h.hlg, h.hlg5, h.hlg1, h.hlgm, h.g, h.so⟩
theorem BookH.kp0 (h : BookH CB H a bk) (k : Kp [] H H') : BookH CB H' a bk := by
  obtain ⟨dx, d, p, al, ac, lg, de, b⟩ := h
  exact ⟨dx, d, p, al, ac, lg, de, b.kp0 k⟩
theorem BookH.g (h : BookH CB H a bk) : GoodBook bk := by
  obtain ⟨dx, d, p, al, ac, lg, de, b⟩ := h
  exact b.g
end
theorem inV_sg {c : Nat} {ac : Tx0} : inV (sg c) (ac.map sg) = true ↔ c ∈ ac := by
  unfold inV
  rw [List.any_map, List.any_eq_true]
  constructor
  · rintro ⟨d, hd, e⟩
    have e2 : (SX.S [d] == SX.S [c]) = true := e
    rw [SX.S_beq] at e2
    have e3 := List.cons.inj (eq_of_beq e2)
    rw [← e3.1]
    exact hd
  · intro h
    refine ⟨c, h, ?_⟩
    show (SX.S [c] == SX.S [c]) = true
    rw [SX.S_beq]
    exact beq_self_eq_true _
section
variable {P : Program} {w : World} {K : PySem.W.Frag} {mg : Str → Option Value} {base : Heap} {CB CC CF : Addr}
def sp_p_is_text : Sp := fun vs H Q _ => ∃ t : Tx0, vs = [tv t] ∧ Lt t ∧ t.length ≤ 8000 ∧ ∀ H', Kp [] H H' → Q (.bl true) H'
theorem c_p_is_text (T : Ty K mg CB CC CF) : C8.Cal P w K mg base 2 "is_text" sp_p_is_text [] := by
  refine cal_of T.d_p_is_text sc_p_is_text (fun _ _ _ _ _ _ us hl => match us, hl with | [_], _ => rfl) (fun vs H Q E h => ?_) (fun cdv A outer f s H vs Q E hr h => ?_)
  · obtain ⟨n, rfl, _⟩ := h
    rfl
  · obtain ⟨t, rfl, hl, htl, q⟩ := h
    have h3 : sizeLine = 16777216 := sizeLine_eq
    refine ⟨_, (pss_cons (ps_if (PW.pt (pw_or (pt_not (pt_val (pe_callB (cr_isi (K := K) rfl) (by rfl) T.n_isinstance (by decide +kernel) (pa_cons (pv 0) (pa_cons (pe_bltn (v := .ty "str") (u := .type "str") (by rfl) T.n_str (by decide +kernel) rfl) pa_nil))))) (pw_or1 (pt_cmpR op_gt (pe_callB call_lenT (by rfl) T.n_len (by decide +kernel) (pa_cons (pv 0) pa_nil)) (C8.pe_gc (v := .int 8000) (by rfl) (gi T.g_TEXT_SIGNS)) (nomark _)))))
    (pss_one (ps_ret pe_bl))
    pss_nil)
  (pss_one (ps_ret (pe_or (pe_cmpR op_eq (pv 0) pe_str (nomark _)) (pe_one (C8.pe_c (c_p_is_word T) hr (by decide) (by rfl) (pa_cons (pv 0) pa_nil))))))), ?_⟩
    refine ⟨_, rfl, _, _, _, _, true, rfl, .ty _, .base (.str _), kit_ty (by decide +kernel), _, rfl, ?_⟩
    refine ⟨_, rfl, _, rfl, by omega, _, _, rfl, rfl, _, rfl, ?_⟩
    refine iteF' (decide_eq_false (by omega)) ?_
    refine ⟨_, rfl, rfl, _, rfl, ?_⟩
    by_cases hne : t = []
    · subst hne
      exact iteT' tv_nil (q H (kp_refl H))
    · refine iteF' ?_ ⟨_, rfl, t, rfl, hl, hne, by omega, q⟩
      exact decide_eq_false fun e => hne (SX.S_inj (V.str.inj e))
def sp_p_is_piece : Sp := fun vs H Q _ => ∃ t : Tx0, vs = [tv t] ∧ Lt t ∧ 1 ≤ t.length ∧ t.length ≤ 5 ∧ ∀ H', Kp [] H H' → Q (.bl true) H'
theorem c_p_is_piece (T : Ty K mg CB CC CF) : C8.Cal P w K mg base 2 "is_piece" sp_p_is_piece [] := by
  refine cal_of T.d_p_is_piece sc_p_is_piece (fun _ _ _ _ _ _ us hl => match us, hl with | [_], _ => rfl) (fun vs H Q E h => ?_) (fun cdv A outer f s H vs Q E hr h => ?_)
  · obtain ⟨n, rfl, _⟩ := h
    rfl
  · obtain ⟨t, rfl, hl, h1, h5, q⟩ := h
    have h3 : sizeLine = 16777216 := sizeLine_eq
    refine ⟨_, (pss_one (ps_ret (pe_and (pe_callB (cr_isi (K := K) rfl) (by rfl) T.n_isinstance (by decide +kernel) (pa_cons (pv 0) (pa_cons (pe_bltn (v := .ty "str") (u := .type "str") (by rfl) T.n_str (by decide +kernel) rfl) pa_nil))) (pe_and (pe_chain op_le op_le pe_int (pe_callB call_lenT (by rfl) T.n_len (by decide +kernel) (pa_cons (pv 0) pa_nil)) (C8.pe_gc (v := .int 5) (by rfl) (gi T.g_PIECE_SIGNS))) (pe_one (C8.pe_c (c_p_is_word T) hr (by decide) (by rfl) (pa_cons (pv 0) pa_nil))))))), ?_⟩
    refine ⟨_, rfl, _, _, _, _, true, rfl, .ty _, .base (.str _), kit_ty (by decide +kernel), _, rfl, ?_⟩
    refine ⟨_, rfl, _, rfl, by omega, _, _, rfl, rfl, _, rfl, iteT' (decide_eq_true (by omega)) ⟨_, _, rfl, rfl, _, rfl, iteT' (decide_eq_true (by omega)) ?_⟩⟩
    refine ⟨_, rfl, t, rfl, hl, ?_, by omega, q⟩
    rintro rfl
    simp at h1
def sp_p_is_text_over (CB : Addr) : Sp := fun vs H Q _ => ∃ (a : Addr) (bk : Bk) (t : Tx0), vs = [.ref a, tv t] ∧ BookH CB H a bk ∧ Ov bk t ∧ t.length ≤ 8000 ∧ ∀ H', Kp [] H H' → Q (.bl true) H'
theorem c_p_is_text_over (T : Ty K mg CB CC CF) : C8.Cal P w K mg base 3 "is_text_over" (sp_p_is_text_over CB) [] := by
  refine cal_of T.d_p_is_text_over sc_p_is_text_over (fun _ _ _ _ _ _ us hl => match us, hl with | [_, _], _ => rfl) (fun vs H Q E h => ?_) (fun cdv A outer f s H vs Q E hr h => ?_)
  · obtain ⟨a, bk, t, rfl, _⟩ := h
    rfl
  · obtain ⟨a, bk, t, rfl, ⟨dx, d, p, al, ac, lg, de, b⟩, ho, htl, q⟩ := h
    have h3 : sizeLine = 16777216 := sizeLine_eq
    refine ⟨_, (pss_one (ps_ret (pe_and (C8.pe_c (c_p_is_text T) hr (by decide) (by rfl) (pa_cons (pv 1) pa_nil)) (pe_one (pe_callB (cr_all rfl) (by rfl) T.n_all (by decide +kernel) (pa_cons (pe_lc (own := [("sign", 2)]) (g := gName 2) rfl sc_p_is_text_over.nd (pi_str (pv 1)) (blkOk_by (own := [("sign", 2)]) (N := N_p_is_text_over) (sc := (defScope s_p_is_text_over)) (by decide +kernel)) (fun _ _ _ _ _ => (pg_name (i := 2) sc_p_is_text_over.nd rfl (Or.inl rfl))) (fun _ _ _ _ _ => pts_nil) (fun _ _ _ _ _ => (pe_cmpR (op_inK (K := K) rfl) (pv 2) (pe_fldK (K := K) rfl (pv 0)) (by rfl)))) pa_nil)))))), ?_⟩
    refine ⟨_, rfl, t, rfl, ov_lt b.g ho, htl, fun H1 hk1 => ⟨_, rfl, ?_⟩⟩
    have b1 := b.kp0 hk1
    refine ⟨_, rfl, _, rfl, fun D hD => ?_⟩
    refine comp_str t (fun _ => true) (fun _ => .bl true) (by omega) ?_ ?_
    · intro c hc acc Nx hz h1 h2
      have ne1 := ne_of_none b1.ha hD
      have ne2 := ne_of_none b1.hl hD
      refine ⟨rfl, _, rfl, _, rfl, _, _, _, _, _, rfl, by rw [upd_ne ne1]; exact b1.ha, T.cl_Book, T.no_Book_own_alphabet, rfl, al, ac.map sg, rfl, ?_, rfl, ?_, acc, upd_same, hz, ?_⟩
      · exact .inr (SqT.of (by rw [upd_ne ne2]; exact b1.hl))
      · rw [List.all_map]
        exact List.all_eq_true.mpr fun _ _ => rfl
      · rw [upd_upd]
        have e : inV (sg c) (ac.map sg) = true := inV_sg.mpr ((b1.hac c).mpr (ho c hc))
        show Nx (upd H1 D (.lst (acc ++ [.bl (inV (sg c) (ac.map sg))])))
        rw [e]
        exact h1 rfl
    · refine ⟨D, t.map fun _ => true, rfl, SqL.of ?_, ?_⟩
      · rw [upd_same, List.map_map, List.filter_eq_self.mpr fun _ _ => rfl]
        rfl
      · have e : (t.map fun _ => true).all id = true := by simp
        show Q (.bl _) _
        rw [e]
        exact q _ (hk1.up (.inl (hk1.free hD (by simp))))
def sp_accepts (CB : Addr) : Sp := fun vs H Q _ => ∃ (a : Addr) (bk : Bk) (t : Tx0), vs = [.ref a, tv t] ∧ BookH CB H a bk ∧ Ov bk t ∧ t.length ≤ 8000 ∧ ∀ H', Kp [] H H' → Q (.bl true) H'
theorem c_Book_accepts (T : Ty K mg CB CC CF) : C8.Met P w K mg base 4 CB "accepts" (sp_accepts CB) [] := by
  refine met_of T.m_Book_accepts T.cl_Book sc_p_Book_accepts (fun _ _ _ _ _ _ us hl => match us, hl with | [_, _], _ => rfl) (fun vs H Q E h => ?_) (fun cdv A outer f s H vs Q E hr h => ?_)
  · obtain ⟨a, bk, t, rfl, _⟩ := h
    rfl
  · obtain ⟨a, bk, t, rfl, b, ho, htl, q⟩ := h
    refine ⟨_, (pss_one (ps_ret (C8.pe_c (c_p_is_text_over T) hr (by decide) (by rfl) (pa_cons (pv 0) (pa_cons (pv 1) pa_nil))))), ?_⟩
    exact ⟨_, rfl, _, rfl, a, bk, t, rfl, b, ho, htl, q⟩
def sp_require_text (CB : Addr) : Sp := fun vs H Q _ => ∃ (a : Addr) (bk : Bk) (t : Tx0), vs = [.ref a, tv t] ∧ BookH CB H a bk ∧ Ov bk t ∧ t.length ≤ 8000 ∧ ∀ H', Kp [] H H' → Q .non H'
theorem c_p_require_text (T : Ty K mg CB CC CF) : C8.Cal P w K mg base 4 "require_text" (sp_require_text CB) [] := by
  refine cal_of T.d_p_require_text sc_p_require_text (fun _ _ _ _ _ _ us hl => match us, hl with | [_, _], _ => rfl) (fun vs H Q E h => ?_) (fun cdv A outer f s H vs Q E hr h => ?_)
  · obtain ⟨a, bk, t, rfl, _⟩ := h
    rfl
  · obtain ⟨a, bk, t, rfl, b, ho, htl, q⟩ := h
    refine ⟨_, (pss_one (ps_if (pt_not (pt_val (C8.pe_c (c_p_is_text_over T) hr (by decide) (by rfl) (pa_cons (pv 0) (pa_cons (pv 1) pa_nil)))))
    (pss_one ps_never)
    pss_nil)), ?_⟩
    exact ⟨_, rfl, _, rfl, a, bk, t, rfl, b, ho, htl, fun H' hk => ⟨_, rfl, q H' hk⟩⟩
def sp_require_ins (C : Addr) : Sp := fun vs H Q _ => ∃ (a dx : Addr) (fs : List (Str × V)), vs = [.ref a] ∧ H a = some (.ins C dx fs) ∧ Q .non H
theorem c_p_require_book (T : Ty K mg CB CC CF) : C8.Cal P w K mg base 1 "require_book" (sp_require_ins CB) [] := by
  refine cal_of T.d_p_require_book sc_p_require_book (fun _ _ _ _ _ _ us hl => match us, hl with | [_], _ => rfl) (fun vs H Q E h => ?_) (fun cdv A outer f s H vs Q E hr h => ?_)
  · obtain ⟨a, dx, fs, rfl, _⟩ := h
    rfl
  · obtain ⟨a, dx, fs, rfl, ha, q⟩ := h
    refine ⟨_, (pss_one (ps_if (pt_not (pt_val (pe_callB (cr_isC T.is_Book) (by rfl) T.n_isinstance (by decide +kernel) (pa_cons (pv 0) (pa_cons (pe_glob (v := .ref CB) (by rfl) T.g_Book rfl) pa_nil)))))
    (pss_one ps_never)
    pss_nil)), ?_⟩
    exact ⟨_, rfl, a, dx, fs, rfl, ha, _, rfl, q⟩
theorem c_p_require_cutter (T : Ty K mg CB CC CF) : C8.Cal P w K mg base 1 "require_cutter" (sp_require_ins CC) [] := by
  refine cal_of T.d_p_require_cutter sc_p_require_cutter (fun _ _ _ _ _ _ us hl => match us, hl with | [_], _ => rfl) (fun vs H Q E h => ?_) (fun cdv A outer f s H vs Q E hr h => ?_)
  · obtain ⟨a, dx, fs, rfl, _⟩ := h
    rfl
  · obtain ⟨a, dx, fs, rfl, ha, q⟩ := h
    refine ⟨_, (pss_one (ps_if (pt_not (pt_val (pe_callB (cr_isC T.is_Cutter) (by rfl) T.n_isinstance (by decide +kernel) (pa_cons (pv 0) (pa_cons (pe_glob (v := .ref CC) (by rfl) T.g_Cutter rfl) pa_nil)))))
    (pss_one ps_never)
    pss_nil)), ?_⟩
    exact ⟨_, rfl, a, dx, fs, rfl, ha, _, rfl, q⟩
end
end K75
-- part D6
set_option Elab.async false
set_option linter.all false
set_option maxRecDepth 100000
set_option maxHeartbeats 4000000
namespace K75
open PySem PySem.Spec PyProof.Rows L2
section
variable {P : Program} {w : World} {K : PySem.W.Frag} {mg : Str → Option Value} {base : Heap} {CB CC CF : Addr}
/-! ### the signs of a book -/
/-! ### the pieces with which a text begins -/
end
end K75
-- part D7
set_option Elab.async false
set_option linter.all false
set_option maxRecDepth 100000
set_option maxHeartbeats 4000000
namespace K75
open PySem PySem.Spec PyProof.Rows L2
/-- the plain dict of a cutter -/
structure PlH (H : Hp) (q o r l : Addr) (pl : Pl) : Prop where
  hq : H q = some (.dK [(.inr "order", .ref o), (.inr "span", .int pl.span), (.inr "rows", .ref r), (.inr "last", .ref l)])
  ho : H o = some (.lst (pl.order.map tv))
  hr : H r = some (.dK (dV tv pl.rows))
  hl : H l = some (.dK (dV tv pl.last))
section
variable {H H' : Hp} {q o r l : Addr} {pl : Pl}
theorem PlH.kp0 (h : PlH H q o r l pl) (k : Kp [] H H') : PlH H' q o r l pl :=
  ⟨k _ _ h.hq (by simp), k _ _ h.ho (by simp), k _ _ h.hr (by simp), k _ _ h.hl (by simp)⟩
theorem tv_int {xs : List Tx0} {a b c : Int} (h : xs.map tv = [.int a, .int b, .int c]) : False := by
  cases xs with
  | nil => cases h
  | cons x xs => injection h with h1 h2; cases h1
theorem PlH.kp (h : PlH H q o r l pl) {x : Addr} (hx : Reel H x) (k : Kp [x] H H') : PlH H' q o r l pl := by
  obtain ⟨a, b, c, e⟩ := hx
  refine ⟨k _ _ h.hq fun z => ?_, k _ _ h.ho fun z => ?_, k _ _ h.hr fun z => ?_, k _ _ h.hl fun z => ?_⟩
  · have := h.hq
    rw [List.mem_singleton.mp z, e] at this
    cases this
  · have := h.ho
    rw [List.mem_singleton.mp z, e] at this
    injection this with this
    injection this with this
    exact tv_int this.symm
  · have := h.hr
    rw [List.mem_singleton.mp z, e] at this
    cases this
  · have := h.hl
    rw [List.mem_singleton.mp z, e] at this
    cases this
theorem PlH.g_order (h : PlH H q o r l pl) : DGet H q (.str "order") (some (.ref o)) := .inl ⟨_, .inr "order", .inl h.hq, rfl, rfl⟩
theorem PlH.g_span (h : PlH H q o r l pl) : DGet H q (.str "span") (some (.int pl.span)) := .inl ⟨_, .inr "span", .inl h.hq, rfl, rfl⟩
theorem PlH.g_rows (h : PlH H q o r l pl) : DGet H q (.str "rows") (some (.ref r)) := .inl ⟨_, .inr "rows", .inl h.hq, rfl, rfl⟩
theorem PlH.g_last (h : PlH H q o r l pl) : DGet H q (.str "last") (some (.ref l)) := .inl ⟨_, .inr "last", .inl h.hq, rfl, rfl⟩
end
theorem dget_S {β : Type} {f : β → V} {H : Hp} {d : Addr} {m : List (Tx0 × β)} (h : H d = some (.dK (dV f m))) {k : Tx0} {v : β} (e : getA m k = some v) : DGet H d (tv k) (some (f v)) := by
  have := dget_A h k
  rw [e] at this
  exact this
theorem firstRow_none {rows : Tb} {t : Tx0} {n : Nat} (h : ∀ s, 1 ≤ s → s ≤ n → getA rows (t.take s) = none) : firstRow rows t (List.range' 1 n) = none := by
  unfold firstRow
  rw [List.findSome?_eq_none_iff]
  intro s hs
  have := List.mem_range'_1.mp hs
  exact h s this.1 (by omega)
theorem firstRow_hit {rows : Tb} {t : Tx0} {n i : Nat} {p : Tx0} (h : ∀ s, 1 ≤ s → s ≤ i → getA rows (t.take s) = none) (hi : i < n) (hp : getA rows (t.take (i + 1)) = some p) : firstRow rows t (List.range' 1 n) = some p := by
  have e : List.range' 1 n = List.range' 1 i ++ List.range' (1 + i) (n - i) := by
    have := @List.range'_append 1 i (n - i) 1
    rw [show i + (n - i) = n by omega, Nat.one_mul] at this
    exact this.symm
  have e2 : List.range' (1 + i) (n - i) = (i + 1) :: List.range' (i + 2) (n - i - 1) := by
    obtain ⟨m, hm⟩ : ∃ m, n - i = m + 1 := ⟨n - i - 1, by omega⟩
    rw [hm, List.range'_succ, Nat.add_comm 1 i]
    rfl
  have := firstRow_none h
  unfold firstRow at this ⊢
  rw [e, e2, List.findSome?_append, this, List.findSome?_cons, hp]
  rfl
section
variable {P : Program} {w : World} {K : PySem.W.Frag} {mg : Str → Option Value} {base : Heap} {CB CC CF : Addr}
/-! ### what the plain cutter tells -/
end
end K75
-- part D8
set_option Elab.async false
set_option linter.all false
set_option maxRecDepth 100000
set_option maxHeartbeats 4000000
namespace K75
open PySem PySem.Spec PyProof.Rows L2
theorem atI_end {α : Type} (xs : List α) (y : α) : atI (xs ++ [y]) (-1) = some y := by
  have e : ixN (xs ++ [y]).length (-1) = some xs.length := by
    unfold ixN
    rw [List.length_append, List.length_singleton, if_neg (by decide), if_pos (by omega)]
    congr 1
    omega
  unfold atI
  rw [e]
  simp
def slen (σ : L2.St) (i : Nat) : Nat := match σ[i]? with | some (some (.str z)) => z.length | _ => 0
section
variable {P : Program} {w : World} {K : PySem.W.Frag} {mg : Str → Option Value} {base : Heap} {CB CC CF : Addr}
/-! ### the cut of the plain cutter -/
end
end K75
-- part D10
set_option Elab.async false
set_option linter.all false
set_option maxRecDepth 100000
set_option maxHeartbeats 4000000
namespace K75
open PySem PySem.Spec PyProof.Rows L2
/-- tables on the way -/
structure GT (bk : Bk) (n k : Nat) (m : Tb) : Prop where
  nd : (m.map (·.1)).Nodup
  le : m.length ≤ k
  ok : ∀ p ∈ m, Ov bk p.1 ∧ 1 ≤ p.1.length ∧ p.1.length ≤ n ∧ p.2 ∈ pcs bk ∧ beg p.2 p.1 = true
theorem GT.put {bk : Bk} {n k : Nat} {m : Tb} (g : GT bk n k m) {t p : Tx0} (h1 : Ov bk t) (h2 : 1 ≤ t.length) (h3 : t.length ≤ n) (h4 : p ∈ pcs bk) (h5 : beg p t = true) : GT bk n (k + 1) (putA m t p) :=
  ⟨nd_putA g.nd, by
    have := (len_putA m t p).2
    have := g.le
    omega, fun q hq => by
    rcases mem_putA hq with e | h
    · subst e
      exact ⟨h1, h2, h3, h4, h5⟩
    · exact g.ok q h⟩
theorem GT.up {bk : Bk} {n k j : Nat} {m : Tb} (g : GT bk n k m) (h : k ≤ j) : GT bk n j m := ⟨g.nd, by have := g.le; omega, g.ok⟩
theorem GT.good {bk : Bk} {n k : Nat} {m : Tb} (g : GT bk n k m) (h : k ≤ 3) : GoodTb bk n m :=
  ⟨g.nd, by have := g.le; omega, fun p hp => (g.ok p hp).1, fun p hp => ⟨(g.ok p hp).2.1, (g.ok p hp).2.2.1⟩, fun p hp => (g.ok p hp).2.2.2.1, fun p hp => (g.ok p hp).2.2.2.2⟩
/-- heaps on the way -/
structure HB (H0 : Hp) (r d a b : Addr) (bk : Bk) (H : Hp) (rows last : Tb) : Prop where
  kp : Kp [r] H0 H
  rl : Reel H r
  hd : H d = some (.dK (dB bk))
  ha : H a = some (.dK (dV tv rows))
  hb : H b = some (.dK (dV tv last))
  a0 : H0 a = none
  b0 : H0 b = none
  ra : r ≠ a
  rb : r ≠ b
  rd : r ≠ d
  da : d ≠ a
  db : d ≠ b
  ab : a ≠ b
section
variable {H0 H : Hp} {r d a b : Addr} {bk : Bk} {rows last : Tb}
theorem HB.kp0 (h : HB H0 r d a b bk H rows last) {H' : Hp} (k : Kp [r] H H') (hr : Reel H' r) : HB H0 r d a b bk H' rows last :=
  ⟨h.kp.trans k, hr, k _ _ h.hd (by simpa using h.rd.symm), k _ _ h.ha (by simpa using h.ra.symm), k _ _ h.hb (by simpa using h.rb.symm), h.a0, h.b0, h.ra, h.rb, h.rd, h.da, h.db, h.ab⟩
theorem Reel.kp {H H' : Hp} {r : Addr} (h : Reel H r) (k : Kp [] H H') : Reel H' r := by
  obtain ⟨x, y, z, e⟩ := h
  exact ⟨x, y, z, k _ _ e (by simp)⟩
theorem Kp.any {H H' : Hp} (k : Kp [] H H') (D : List Addr) : Kp D H H' := fun x o h _ => k x o h (by simp)
theorem HB.kpe (h : HB H0 r d a b bk H rows last) {H' : Hp} (k : Kp [] H H') : HB H0 r d a b bk H' rows last := h.kp0 (k.any [r]) (h.rl.kp k)
theorem HB.reel (h : HB H0 r d a b bk H rows last) (x y z : Int) : HB H0 r d a b bk (upd H r (.lst [.int x, .int y, .int z])) rows last :=
  h.kp0 ((kp_refl H).up (.inr (by simp))) (reel_same x y z)
theorem HB.putA (h : HB H0 r d a b bk H rows last) (m : Tb) : HB H0 r d a b bk (upd H a (.dK (dV tv m))) m last :=
  ⟨h.kp.up (.inl h.a0), reel_upd h.rl h.ra, by rw [upd_ne h.da]; exact h.hd, upd_same, by rw [upd_ne h.ab.symm]; exact h.hb, h.a0, h.b0, h.ra, h.rb, h.rd, h.da, h.db, h.ab⟩
theorem HB.putB (h : HB H0 r d a b bk H rows last) (m : Tb) : HB H0 r d a b bk (upd H b (.dK (dV tv m))) rows m :=
  ⟨h.kp.up (.inl h.b0), reel_upd h.rl h.rb, by rw [upd_ne h.db]; exact h.hd, by rw [upd_ne h.ab]; exact h.ha, upd_same, h.a0, h.b0, h.ra, h.rb, h.rd, h.da, h.db, h.ab⟩
theorem dput_A {β : Type} {f : β → V} {H : Hp} {d : Addr} {m : List (Tx0 × β)} (h : H d = some (.dK (dV f m))) (hz : m.length ≤ 1000) (k : Tx0) (v : β) : DPut H d (tv k) (f v) (upd H d (.dK (dV f (K75.putA m k v)))) := by
  have h3 : sizeLine = 16777216 := sizeLine_eq
  have := DPut.k (k := kx k) (v := f v) h (by rw [dV_length]; omega)
  rw [putK_dV] at this
  exact this
end
section
variable {P : Program} {w : World} {K : PySem.W.Frag} {mg : Str → Option Value} {base : Heap} {CB CC CF : Addr}
end
end K75
-- part M2
set_option Elab.async false
set_option linter.all false
set_option maxRecDepth 100000
set_option maxHeartbeats 4000000
namespace K75
open PySem PySem.Spec PyProof.Rows L2
/-! ### cheapest prices -/
def Cand (bk : Bk) (t : Tx0) (fs : List Int) (s : Nat) (y : Int) : Prop := ∃ p ∈ bk, fin p.1 (t.take s) = true ∧ ∃ v, fs[s - p.1.length]? = some v ∧ y = v + p.2
structure DPok (bk : Bk) (t : Tx0) (fs : List Int) : Prop where
  zero : fs[0]? = some 0
  step : ∀ s, 1 ≤ s → s < fs.length → ∃ m, fs[s]? = some m ∧ Cand bk t fs s m ∧ ∀ y, Cand bk t fs s y → m ≤ y
def Cheap (bk : Bk) (t : Tx0) (v : Int) : Prop := ∃ fs, DPok bk t fs ∧ fs.length = t.length + 1 ∧ fs[t.length]? = some v
theorem dp_nil (bk : Bk) (t : Tx0) : DPok bk t [0] := ⟨rfl, fun s h1 h2 => by simp at h2; omega⟩
theorem cand_app {bk : Bk} {t : Tx0} {fs : List Int} {m y : Int} {s : Nat} (hl : ∀ p ∈ bk, 1 ≤ p.1.length) (h0 : 1 ≤ s) (hs : s ≤ fs.length) : Cand bk t (fs ++ [m]) s y ↔ Cand bk t fs s y := by
  have e : ∀ p ∈ bk, (fs ++ [m])[s - p.1.length]? = fs[s - p.1.length]? := fun p hp => by
    have := hl p hp
    exact List.getElem?_append_left (by omega)
  constructor
  · rintro ⟨p, hp, h1, v, h2, h3⟩
    exact ⟨p, hp, h1, v, by rw [← e p hp]; exact h2, h3⟩
  · rintro ⟨p, hp, h1, v, h2, h3⟩
    exact ⟨p, hp, h1, v, by rw [e p hp]; exact h2, h3⟩
theorem dp_snoc {bk : Bk} {t : Tx0} {fs : List Int} {m : Int} (hl : ∀ p ∈ bk, 1 ≤ p.1.length) (h : DPok bk t fs) (hne : 1 ≤ fs.length) (h1 : Cand bk t fs fs.length m) (h2 : ∀ y, Cand bk t fs fs.length y → m ≤ y) : DPok bk t (fs ++ [m]) := by
  refine ⟨by rw [List.getElem?_append_left (by omega)]; exact h.zero, fun s hs1 hs2 => ?_⟩
  rw [List.length_append, List.length_singleton] at hs2
  by_cases e : s = fs.length
  · subst e
    refine ⟨m, by simp, (cand_app hl hs1 (Nat.le_refl _)).mpr h1, fun y hy => h2 y ((cand_app hl hs1 (Nat.le_refl _)).mp hy)⟩
  · obtain ⟨n, a, b, c⟩ := h.step s hs1 (by omega)
    refine ⟨n, by rw [List.getElem?_append_left (by omega)]; exact a, (cand_app hl hs1 (by omega)).mpr b, fun y hy => c y ((cand_app hl hs1 (by omega)).mp hy)⟩
theorem dp_unique {bk bl : Bk} {t : Tx0} {fs gs : List Int} (hl : ∀ p ∈ bk, 1 ≤ p.1.length) (hm : ∀ p, p ∈ bk ↔ p ∈ bl) (h1 : DPok bk t fs) (h2 : DPok bl t gs) : ∀ s, s < fs.length → s < gs.length → fs[s]? = gs[s]? := by
  intro s
  induction s using Nat.strongRecOn with
  | _ s ih =>
    intro hf hg
    by_cases h0 : s = 0
    · subst h0
      rw [h1.zero, h2.zero]
    · have hs : 1 ≤ s := by omega
      have ec : ∀ y, Cand bk t fs s y ↔ Cand bl t gs s y := fun y => by
        constructor
        · rintro ⟨p, hp, a, v, b, c⟩
          have := hl p hp
          exact ⟨p, (hm p).mp hp, a, v, by rw [← ih (s - p.1.length) (by omega) (by omega) (by omega)]; exact b, c⟩
        · rintro ⟨p, hp, a, v, b, c⟩
          have := hl p ((hm p).mpr hp)
          exact ⟨p, (hm p).mpr hp, a, v, by rw [ih (s - p.1.length) (by omega) (by omega) (by omega)]; exact b, c⟩
      obtain ⟨m, a1, a2, a3⟩ := h1.step s hs hf
      obtain ⟨n, b1, b2, b3⟩ := h2.step s hs hg
      have := a3 n ((ec n).mpr b2)
      have := b3 m ((ec m).mp a2)
      rw [a1, b1, show m = n by omega]
theorem cheap_unique {bk bl : Bk} {t : Tx0} {v u : Int} (hl : ∀ p ∈ bk, 1 ≤ p.1.length) (hm : ∀ p, p ∈ bk ↔ p ∈ bl) (h1 : Cheap bk t v) (h2 : Cheap bl t u) : v = u := by
  obtain ⟨fs, a1, a2, a3⟩ := h1
  obtain ⟨gs, b1, b2, b3⟩ := h2
  have := dp_unique hl hm a1 b1 t.length (by omega) (by omega)
  rw [a3, b3] at this
  exact Option.some.inj this
/-- the last sign is a candidate -/
theorem fin_one {t : Tx0} {c s : Nat} (h : t[s]? = some c) : fin [c] (t.take (s + 1)) = true := by
  have hs := (List.getElem?_eq_some_iff.mp h).1
  unfold fin
  rw [decide_eq_true_iff, List.length_take, Nat.min_eq_left (by omega)]
  refine ⟨by show 1 ≤ s + 1; omega, ?_⟩
  show (t.take (s + 1)).drop s = [c]
  rw [List.take_add_one, h, List.drop_append_of_le_length (by rw [List.length_take]; omega), List.drop_eq_nil_of_le (by rw [List.length_take]; omega)]
  rfl
theorem fin_le {b a : Tx0} (h : fin b a = true) : b.length ≤ a.length := (of_decide_eq_true h).1
end K75
-- part D11
set_option Elab.async false
set_option linter.all false
set_option maxRecDepth 100000
set_option maxHeartbeats 4000000
namespace K75
open PySem PySem.Spec PyProof.Rows L2
section
variable {P : Program} {w : World} {K : PySem.W.Frag} {mg : Str → Option Value} {base : Heap} {CB CC CF : Addr}
end
end K75
-- part P3
set_option Elab.async false
set_option linter.all false
set_option maxRecDepth 100000
set_option maxHeartbeats 4000000
namespace K75
open PySem PySem.Spec PyProof.Rows L2
theorem fin_cut {p t : Tx0} {s : Nat} (hs : s ≤ t.length) : fin p (t.take s) = true ↔ p.length ≤ s ∧ p = (t.drop (s - p.length)).take p.length := by
  unfold fin
  rw [decide_eq_true_iff, List.length_take, Nat.min_eq_left hs, List.drop_take]
  constructor
  · rintro ⟨h1, h2⟩
    rw [show s - (s - p.length) = p.length by omega] at h2
    exact ⟨h1, h2.symm⟩
  · rintro ⟨h1, h2⟩
    refine ⟨h1, ?_⟩
    rw [show s - (s - p.length) = p.length by omega]
    exact h2.symm
theorem last_int {fs : List Int} {n : Nat} {v : Int} (hl : fs.length = n + 1) (hv : fs[n]? = some v) : atI (fs.map V.int) (-1) = some (.int v) := by
  have e : fs = fs.take n ++ [v] := by
    have := List.take_append_drop n fs
    have e2 : fs.drop n = [v] := by
      rw [List.drop_eq_getElem_cons (by omega), List.drop_eq_nil_of_le (by omega)]
      rw [List.getElem?_eq_getElem (by omega)] at hv
      rw [Option.some.inj hv]
    rw [e2] at this
    exact this.symm
  rw [e, List.map_append]
  exact atI_end _ _
section
variable {P : Program} {w : World} {K : PySem.W.Frag} {mg : Str → Option Value} {base : Heap} {CB CC CF : Addr}
def sp_p_prices_along (CB : Addr) : Sp := fun vs H Q _ => ∃ (a : Addr) (bk : Bk) (t : Tx0), vs = [.ref a, tv t] ∧ BookH CB H a bk ∧ Ov bk t ∧ t.length ≤ 10000 ∧
  ∀ (f : Addr) (fs : List Int) (H' : Hp), H f = none → Kp [] H H' → H' f = some (.lst (fs.map V.int)) → DPok bk t fs → fs.length = t.length + 1 → Q (.ref f) H'
theorem c_p_prices_along (T : Ty K mg CB CC CF) : C8.Cal P w K mg base 1 "prices_along" (sp_p_prices_along CB) [] := by
  refine cal_of T.d_p_prices_along sc_p_prices_along (fun _ _ _ _ _ _ us hl => match us, hl with | [_, _], _ => rfl) (fun vs H Q E h => ?_) (fun cdv A outer f s H vs Q E hr h => ?_)
  · obtain ⟨a, bk, t, rfl, _⟩ := h
    rfl
  · obtain ⟨a, bk, t, rfl, ⟨dx, d, p0, al, ac, lg, de, b⟩, ho, htl, k⟩ := h
    have h3 : sizeLine = 16777216 := sizeLine_eq
    refine ⟨_, (pss_cons (ps_set (i := 2) sc_p_prices_along.nd rfl (Or.inl rfl) (pe_lst (pa_cons pe_int pa_nil)))
  (pss_cons (ps_for PassesOwn.never rfl (pi_range2 (by rfl) T.n_range (pa_cons pe_int (pa_cons (pe_op op_add (pe_callB call_lenT (by rfl) T.n_len (by decide +kernel) (pa_cons (pv 1) pa_nil)) pe_int) pa_nil))) (pg_name (i := 3) sc_p_prices_along.nd rfl (Or.inl rfl))
    (pss_cons (ps_set (i := 4) sc_p_prices_along.nd rfl (Or.inl rfl) (pe_op op_add (pe_ix (ix_listK (K := K) rfl) (pv 2) (pe_un un_neg pe_int) (fun _ _ => rfl)) (pe_dget (hu1 hr) (pe_fldK (K := K) rfl (pv 0)) (pe_ix ix_str (pv 1) (pe_op op_sub (pv 3) pe_int) (fun _ _ => rfl)) (fun _ _ => rfl))))
    (pss_cons (ps_for PassesOwn.never rfl (pi_range2 (by rfl) T.n_range (pa_cons (pe_callB (call_max2 rfl) (by rfl) T.n_max (by decide +kernel) (pa_cons pe_int (pa_cons (pe_op op_sub (pv 3) (pe_fldK (K := K) rfl (pv 0))) pa_nil))) (pa_cons (pe_op op_sub (pv 3) pe_int) pa_nil))) (pg_name (i := 5) sc_p_prices_along.nd rfl (Or.inl rfl))
      (pss_cons (ps_set (i := 6) sc_p_prices_along.nd rfl (Or.inl rfl) (pe_dget1 (hu1 hr) (pe_fldK (K := K) rfl (pv 0)) (pe_slice sl_tx (pv 1) (po_some (pv 5)) (po_some (pv 3))) ⟨by rfl, by rfl, by rfl, by rfl⟩))
      (pss_one (ps_if (PW.pt (pw_and (pt_cmpR op_notN (pv 6) pe_non (nomark _)) (pw_and1 (pt_cmpR op_lt (pe_op op_add (pe_ix (ix_listK (K := K) rfl) (pv 2) (pv 5) (fun _ _ => rfl)) (pv 6)) (pv 4) (nomark _)))))
        (pss_one (ps_set (i := 4) sc_p_prices_along.nd rfl (Or.inl rfl) (pe_op op_add (pe_ix (ix_listK (K := K) rfl) (pv 2) (pv 5) (fun _ _ => rfl)) (pv 6))))
        pss_nil))))
    (pss_one (ps_expr (pe_bm PySem.F.plainAttrs_list PySem.F.slot_list_append PySem.F.type_list_append mt_append (pv 2) (pa_cons (pv 4) pa_nil)))))))
  (pss_one (ps_ret (pv 2))))), ?_⟩
    refine ⟨by show 1 ≤ sizeLine; omega, fun f hf => ⟨_, rfl, _, rfl, by omega, _, _, rfl, rfl, 1, ((t.length : Int) + 1), rfl, ⟨by omega, by omega, by omega, by omega⟩, ?_⟩⟩
    rw [show ((t.length : Int) + 1 - 1).toNat = t.length by omega]
    refine for_range (lo := 1) (n := t.length) (fun i σ' H' => ∃ (fs : List Int) (x y z u : Option V), σ' = [some (.ref a), some (tv t), some (.ref f), x, y, z, u] ∧ Kp [] H H' ∧ H' f = some (.lst (fs.map V.int)) ∧ DPok bk t fs ∧ fs.length = i + 1)
      ⟨[0], none, none, none, none, rfl, (kp_refl H).up (.inl hf), upd_same, dp_nil bk t, rfl⟩ ?_ ?_
    · rintro i σ H1 hi ⟨fs, x, y, z, u, rfl, hk, hf1, hdp, hfl⟩
      have b1 := b.kp0 hk
      have g := b.g
      have hlt : t.length ≤ sizeLine := by omega
      obtain ⟨c, hc⟩ : ∃ c, t[i]? = some c := ⟨_, List.getElem?_eq_getElem hi⟩
      obtain ⟨q1, hq1, eq1⟩ := List.mem_map.mp (ho c (List.mem_of_getElem? hc))
      obtain ⟨v0, hv0⟩ : ∃ v, fs[i]? = some v := ⟨_, List.getElem?_eq_getElem (by omega)⟩
      have hat : atI (fs.map V.int) (-1) = some (.int v0) := by
        have e : fs = fs.take i ++ [v0] := by
          have := List.take_append_drop i fs
          have e2 : fs.drop i = [v0] := by
            rw [List.drop_eq_getElem_cons (by omega), List.drop_eq_nil_of_le (by omega)]
            rw [List.getElem?_eq_getElem (by omega)] at hv0
            rw [Option.some.inj hv0]
          rw [e2] at this
          exact this.symm
        rw [e, List.map_append]
        exact atI_end _ _
      refine ⟨_, rfl, _, rfl, _, _, _, _, rfl, rfl, SqL.of hf1, hat, _, rfl, _, _, _, _, _, rfl, b1.ha, T.cl_Book, T.no_Book_own_prices, rfl, _, rfl, _, rfl, _, _, rfl, rfl, SX.S t, _, c, rfl, rfl, by rw [SX.S_len]; omega, ?_, d, .int q1.2, rfl, ?_, _, _, rfl, rfl, ?_⟩
      · rw [show (1 + (i : Int) - 1) = ((i : Nat) : Int) by omega]
        exact atI_nat hc
      · have := dget_S (f := V.int) b1.hd (getA_mem g.nd hq1)
        rw [eq1] at this
        exact this
      · refine ⟨_, rfl, _, rfl, _, _, _, _, _, rfl, b1.ha, T.cl_Book, T.no_Book_own_longest, rfl, _, _, rfl, rfl, ?_⟩
        have hlo : ∃ lo : Nat, (if (1 + (i : Int) - (lg : Int)) > 0 then 1 + (i : Int) - (lg : Int) else 0) = (lo : Int) ∧ lo ≤ i ∧ i + 1 ≤ lo + lg := by
          have h1 := b.hlg1
          by_cases hq : (1 + (i : Int) - (lg : Int)) > 0
          · exact ⟨i + 1 - lg, by rw [if_pos hq]; omega, by omega, by omega⟩
          · exact ⟨0, by rw [if_neg hq]; rfl, by omega, by omega⟩
        obtain ⟨lo, elo, hlo1, hlo2⟩ := hlo
        refine ⟨_, _, rfl, ?_⟩
        rw [elo]
        refine ⟨_, rfl, _, _, rfl, rfl, (lo : Int), (i : Int), ?_, ⟨by omega, by omega, by omega, by omega⟩, ?_⟩
        · show [V.int (lo : Int), V.int (1 + (i : Int) - 1)] = _
          rw [show (1 + (i : Int) - 1) = (i : Int) by omega]
        rw [show ((i : Int) - (lo : Int)).toNat = i - lo by omega]
        have h1c : Cand bk t fs (i + 1) (v0 + q1.2) := ⟨q1, hq1, by rw [eq1]; exact fin_one hc, v0, by rw [eq1]; exact hv0, rfl⟩
        have step1 : ∀ p ∈ bk, fin p.1 (t.take (i + 1)) = true → p.1.length = 1 → ∀ y, fs[i + 1 - p.1.length]? = some y → v0 + q1.2 ≤ y + p.2 := by
          intro p hp hfp hl1 y hy
          have e1 := ((fin_cut (by omega)).mp hfp).2
          have e2 := ((fin_cut (p := [c]) (by omega)).mp (fin_one hc)).2
          rw [hl1] at e1
          have e3 : p.1 = q1.1 := by rw [e1, eq1]; exact e2.symm
          have e4 : p.2 = q1.2 := by
            have a1 := getA_mem g.nd (show (p.1, p.2) ∈ bk from hp)
            have a2 := getA_mem g.nd (show (q1.1, q1.2) ∈ bk from hq1)
            rw [e3, a2] at a1
            exact (Option.some.inj a1).symm
          rw [hl1] at hy
          have : fs[i]? = some y := hy
          rw [hv0] at this
          rw [Option.some.inj this, e4]
          exact Int.le_refl _
        refine for_range (lo := (lo : Int)) (n := i - lo) (fun j σ' H' => ∃ (best : Int) (z u : Option V), σ' = [some (.ref a), some (tv t), some (.ref f), some (.int (1 + (i : Int))), some (.int best), z, u] ∧ H1 = H' ∧ Cand bk t fs (i + 1) best ∧ ∀ p ∈ bk, fin p.1 (t.take (i + 1)) = true → (p.1.length = 1 ∨ i + 1 - p.1.length < lo + j) → ∀ y, fs[i + 1 - p.1.length]? = some y → best ≤ y + p.2)
          ⟨_, _, _, rfl, rfl, h1c, fun p hp hfp ho y hy => by
            rcases ho with ho | ho
            · exact step1 p hp hfp ho y hy
            · have := b.hlg p.1 (List.mem_map_of_mem hp)
              omega⟩ ?_ ?_
        · rintro j σ H2 hj ⟨best, z, u, rfl, rfl, hcand, hmin⟩
          have hst : lo + j < i := by omega
          obtain ⟨w0, hw0⟩ : ∃ v, fs[lo + j]? = some v := ⟨_, List.getElem?_eq_getElem (by omega)⟩
          refine ⟨_, rfl, _, _, _, _, _, rfl, b1.ha, T.cl_Book, T.no_Book_own_prices, rfl, _, rfl, .inl ⟨_, .inl b1.hd⟩, _, rfl, _, rfl, _, rfl, _, rfl, _, rfl, _, rfl, hlt, .inr (.inr ⟨lo + j, i + 1, by rw [Int.natCast_add], by rw [Int.add_comm]; rfl, _, dget_A b1.hd _, ?_⟩)⟩
          have hslen : ((t.drop (lo + j)).take (i + 1 - (lo + j))).length = i + 1 - (lo + j) := by
            rw [List.length_take, List.length_drop]
            omega
          have hfin : fin ((t.drop (lo + j)).take (i + 1 - (lo + j))) (t.take (i + 1)) = true := by
            rw [fin_cut (by omega), hslen]
            refine ⟨by omega, ?_⟩
            rw [show i + 1 - (i + 1 - (lo + j)) = lo + j by omega]
          generalize hpc : (t.drop (lo + j)).take (i + 1 - (lo + j)) = pc at hslen hfin
          cases hg : getA bk pc with
          | none =>
            refine ⟨_, rfl, rfl, _, rfl, iteF' rfl ⟨_, _, _, rfl, rfl, hcand, fun p hp hfp ho2 y hy => ?_⟩⟩
            rcases ho2 with ho2 | ho2
            · exact hmin p hp hfp (.inl ho2) y hy
            · by_cases e : i + 1 - p.1.length < lo + j
              · exact hmin p hp hfp (.inr e) y hy
              · have hpl := (g.ln p hp)
                have e2 := ((fin_cut (by omega)).mp hfp)
                have e3 : p.1.length = i + 1 - (lo + j) := by omega
                have e4 : p.1 = pc := by
                  rw [← hpc, e2.2, e3, show i + 1 - (i + 1 - (lo + j)) = lo + j by omega]
                have := getA_mem g.nd (show (p.1, p.2) ∈ bk from hp)
                rw [e4, hg] at this
                cases this
          | some pr =>
            have hmem := getA_some hg
            have hpcl := (g.ln _ hmem).2
            refine ⟨_, rfl, rfl, _, rfl, iteT' rfl ⟨_, rfl, _, rfl, _, _, _, .int w0, rfl, rfl, SqL.of hf1, ?_, _, rfl, _, _, rfl, rfl, _, rfl, _, _, rfl, rfl, _, rfl, ite2 (fun hlt2 => ?_) (fun hlt2 => ?_)⟩⟩
            · rw [show (lo : Int) + (j : Int) = ((lo + j : Nat) : Int) by omega]
              exact atI_nat (by rw [List.getElem?_map, hw0]; rfl)
            · have hb2 : w0 + pr < best := of_decide_eq_true hlt2
              refine ⟨_, rfl, _, rfl, _, _, _, .int w0, rfl, rfl, SqL.of hf1, ?_, _, rfl, _, _, rfl, rfl, w0 + pr, _, _, rfl, rfl, ?_, fun p hp hfp ho2 y hy => ?_⟩
              · rw [show (lo : Int) + (j : Int) = ((lo + j : Nat) : Int) by omega]
                exact atI_nat (by rw [List.getElem?_map, hw0]; rfl)
              · exact ⟨_, hmem, hfin, w0, by rw [hslen, show i + 1 - (i + 1 - (lo + j)) = lo + j by omega]; exact hw0, rfl⟩
              · by_cases e : p.1.length = 1 ∨ i + 1 - p.1.length < lo + j
                · have := hmin p hp hfp e y hy
                  omega
                · have hpl := (g.ln p hp)
                  have e2 := ((fin_cut (by omega)).mp hfp)
                  have e3 : p.1.length = i + 1 - (lo + j) := by omega
                  have e4 : p.1 = pc := by
                    rw [← hpc, e2.2, e3, show i + 1 - (i + 1 - (lo + j)) = lo + j by omega]
                  have := getA_mem g.nd (show (p.1, p.2) ∈ bk from hp)
                  rw [e4, hg] at this
                  rw [e3, show i + 1 - (i + 1 - (lo + j)) = lo + j by omega, hw0] at hy
                  rw [← Option.some.inj this, ← Option.some.inj hy]
                  exact Int.le_refl _
            · have hb2 : ¬ (w0 + pr < best) := fun h => hlt2 (decide_eq_true h)
              refine ⟨best, _, _, rfl, rfl, hcand, fun p hp hfp ho2 y hy => ?_⟩
              by_cases e : p.1.length = 1 ∨ i + 1 - p.1.length < lo + j
              · exact hmin p hp hfp e y hy
              · have hpl := (g.ln p hp)
                have e2 := ((fin_cut (by omega)).mp hfp)
                have e3 : p.1.length = i + 1 - (lo + j) := by omega
                have e4 : p.1 = pc := by
                  rw [← hpc, e2.2, e3, show i + 1 - (i + 1 - (lo + j)) = lo + j by omega]
                have := getA_mem g.nd (show (p.1, p.2) ∈ bk from hp)
                rw [e4, hg] at this
                rw [e3, show i + 1 - (i + 1 - (lo + j)) = lo + j by omega, hw0] at hy
                rw [← Option.some.inj this, ← Option.some.inj hy]
                omega
        · rintro σ H2 ⟨best, z, u, rfl, rfl, hcand, hmin⟩
          refine ⟨_, rfl, .inl ⟨rfl, _, SqL.of hf1⟩, _, rfl, f, fs.map V.int, _, rfl, rfl, hf1, ?_, ?_⟩
          · rw [List.length_map]
            omega
          refine ⟨fs ++ [best], _, _, _, _, rfl, ?_, ?_, ?_, ?_⟩
          · exact hk.up (.inl hf)
          · rw [upd_same, List.map_append]
            rfl
          · refine dp_snoc (fun p hp => (g.ln p hp).1) hdp (by omega) (by rw [hfl]; exact hcand) ?_
            rw [hfl]
            rintro y ⟨p, hp, hfp, v, hv, rfl⟩
            have h5 := b.hlg p.1 (List.mem_map_of_mem hp)
            have h6 := g.ln p hp
            have h7 := ((fin_cut (by omega)).mp hfp).1
            refine hmin p hp hfp ?_ v hv
            by_cases e : p.1.length = 1
            · exact .inl e
            · exact .inr (by omega)
          · rw [List.length_append, hfl]
            rfl
    · rintro σ H1 ⟨fs, x, y, z, u, rfl, hk, hf1, hdp, hfl⟩
      exact ⟨_, rfl, k f fs H1 hf hk hf1 hdp hfl⟩
def sp_cheapest (CB : Addr) : Sp := fun vs H Q _ => ∃ (a : Addr) (bk : Bk) (t : Tx0), vs = [.ref a, tv t] ∧ BookH CB H a bk ∧ Ov bk t ∧ t.length ≤ 10000 ∧ ∀ (v : Int) (H' : Hp), Kp [] H H' → Cheap bk t v → Q (.int v) H'
theorem c_p_cheapest_price_in (T : Ty K mg CB CC CF) : C8.Cal P w K mg base 2 "cheapest_price_in" (sp_cheapest CB) [] := by
  refine cal_of T.d_p_cheapest_price_in sc_p_cheapest_price_in (fun _ _ _ _ _ _ us hl => match us, hl with | [_, _], _ => rfl) (fun vs H Q E h => ?_) (fun cdv A outer f s H vs Q E hr h => ?_)
  · obtain ⟨a, bk, t, rfl, _⟩ := h
    rfl
  · obtain ⟨a, bk, t, rfl, b, ho, htl, k⟩ := h
    refine ⟨_, (pss_one (ps_ret (pe_ix (ix_listK (K := K) rfl) (C8.pe_c (c_p_prices_along T) hr (by decide) (by rfl) (pa_cons (pv 0) (pa_cons (pv 1) pa_nil))) (pe_un un_neg pe_int) (fun _ _ => rfl)))), ?_⟩
    refine ⟨_, rfl, _, rfl, a, bk, t, rfl, b, ho, htl, fun f fs H1 hf hk hf1 hdp hfl => ?_⟩
    obtain ⟨v, hv⟩ : ∃ v, fs[t.length]? = some v := ⟨_, List.getElem?_eq_getElem (by omega)⟩
    refine ⟨_, rfl, _, _, _, .int v, rfl, rfl, SqL.of hf1, ?_, k v H1 hk ⟨fs, hdp, hfl, hv⟩⟩
    exact last_int hfl hv
end
end K75
-- part R5
set_option Elab.async false
set_option linter.all false
set_option maxRecDepth 100000
set_option maxHeartbeats 4000000
namespace K75
open PySem PySem.Spec PyProof.Rows L2
section
variable {X : Cx}
/-- sorted(a tuple of texts) -/
def rSortedTS (K : PySem.W.Frag) : List V → Hp → VK → Prop := fun vs H Q => ∃ (a : Addr) (xs : List Str), vs = [V.ref a] ∧ SqT K H a (xs.map V.str) ∧ xs.length < 64 ∧
  ∀ (ys : List Str) (p : Addr), ys.Perm xs → sortedS ys = true → H p = none → Q (.ref p) (upd H p (.lst (ys.map V.str)))
theorem cr_sortedTS : CallR X (.builtin "sorted") (rSortedTS X.K) := by
  intro pins s σ H xs us Q I r q
  obtain ⟨a, ks, rfl, hs, h64, q⟩ := q
  obtain ⟨its, rv, ⟨o, ho, hc, n, hd⟩, hz⟩ := I.tuple hs
  rw [Vals.ref1 r]
  have hS : StrsAre its ks := rv.strs
  have hal : its.length = ks.length := by
    have z := rv.length
    rw [List.length_map] at z
    exact z.symm
  refine Calls.call_function_entry PyProof.Rows.kind_sorted PyProof.Rows.plain_sorted PyProof.Rows.entry_sorted (PyProof.Rows.args_sorted1 _) ?_
  unfold Builtin.«sorted»
  refine wpAny_bind (m := checkCount "sorted" 1 1 _) (wpAny_pure ?_)
  have h3 : sizeLine = 16777216 := sizeLine_eq
  refine wpAny_bind (wpAny_collect_seq a (T := "tuple") (.inr rfl) ho hc hd (fun h' hk => ?_) (by rw [List.size_toArray, hal]; omega))
  have I1 : Inv X pins σ H { s with heap := h' } := I.kept (t' := s.toks) hk
  have eits : its.toArray.toList = its := by simp
  refine wpAny_bind (wpAny_newList ?_ (by rw [eits, hal]; omega))
  rw [eits]
  have hoL : (h'.push (seqObj "list" its.toArray 0)).get? h'.objs.size = some (seqObj "list" its.toArray 0) := Heap.get?_push_size _ rfl
  show wpAny _ _ _ _ _ { s with heap := h'.push (seqObj "list" its.toArray 0) }
  refine wpAny_bind (wpAny_holding (wpAny_call_entry PyProof.Rows.slot_list_sort ⟨_, hoL, rfl⟩ PyProof.Rows.entry_list_sort
    (list_sort_treeK strKind_oneLt (s := { s with heap := h'.push (seqObj "list" its.toArray 0) }) hoL hS.keysOf (fun v₁ v₂ rest e => keyKind_strs (by rw [← e]; exact hS)) (by rw [hal]; exact h64) fun st' hp hs => ⟨_, rfl, ?_⟩)
    (PyProof.Rows.args_list_sort _)))
  obtain ⟨ys, g1, g2, g3⟩ := sorted_out_str hS hp hs
  obtain ⟨e', he'⟩ := PyProof.Rows.sortedHeap_at (vs := its) (out := (arrOf st').map (·.2)) hoL
  have hlen : (ys.map V.str).length ≤ sizeLine := by
    rw [List.length_map, g2.length_eq]
    omega
  refine wpAny_pure ⟨_, rfl, .ref h'.objs.size, upd H h'.objs.size (.lst (ys.map V.str)), I1.laid (t' := s.toks) (fun b u e => ?_) (Nat.le_refl _)
    (show ObjOk X.prog X.w _ _ _ (.lst (ys.map V.str)) from ⟨hlen, ((arrOf st').map (·.2)).toList, e', vals_of_strs g1, by rw [Array.toArray_toList]; exact he'⟩), rfl, q ys _ g2 g3 (I1.hok.fresh (Nat.le_refl _))⟩
  have hb : b < h'.objs.size := Heap.lt_size e
  rw [PyProof.Rows.sortedHeap_old (Nat.ne_of_lt hb) (by rw [size_push']; exact Nat.lt_succ_of_lt hb)]
  exact Heap.get?_push_of_some _ e
end
end K75
-- part R6
set_option Elab.async false
set_option linter.all false
set_option maxRecDepth 100000
set_option maxHeartbeats 4000000
namespace K75
open PySem PySem.Spec PyProof.Rows L2 PpSet
/-! a set comprehension of whole numbers -/
abbrev set0 (w : World) (D : Addr) : HO := SetO w D (fun _ => false) 0
abbrev setPlus (w : World) (D : Addr) (S : Int → Bool) (n : Nat) (k : Int) : HO := SetO w D (fun j => S j || decide (j = k)) (if S k = true then n else n + 1)
/-- its reading: the new set stands at D -/
def tSi (w : World) (wi : TI) (g : TG) (tt : TT) (te : TE) (vs : List Nat) : TE := fun σ H Q => wi σ H fun J Ha => ∀ D, Ha D = none → ∃ W : Nat → Nat → Hp → Prop,
  (∃ m, W 0 m (upd Ha D (set0 w D))) ∧ ∀ i m H, W i m H → (J.stop i H ∧ Q (.ref D) H) ∨ (J.go i H ∧ ∃ Nx : Hp → Prop, (∀ Hb, Nx Hb → ∃ k, k < m ∧ W (i + 1) k Hb) ∧
    ∀ x Hb, J.yld i H x Hb → g x (wipe σ vs) Hb fun σc Hc => wipe σc vs = wipe σ vs ∧ tt σc Hc fun b Hd =>
      if b = true then te σc Hd fun y He => ∃ k S n, y = .int k ∧ He D = some (SetO w D S n) ∧ n + 1 < scanBound ∧ Nx (upd He D (setPlus w D S n k)) else Nx Hd)
section
variable {X : Cx}
theorem put_ok {pins : List (Addr × Obj)} {σ : L2.St} {H : Hp} {s : Shared} {D : Addr} {k : Int} {u : Value} {S : Int → Bool} {n : Nat} {E : Value → Shared → Prop} {Q : Value → Shared → Prop} (I : Inv X pins σ H s) (hD : H D = some (SetO X.w D S n))
    (rk : RelV (.int k) u) (room : n + 1 < scanBound) (q : ∀ s', Inv X pins σ (upd H D (setPlus X.w D S n k)) s' → Q .none s') : wpAny (model X.prog X.w) X.A (call (.builtin "set.add") [.ref D, u]) Q E s := by
  obtain ⟨t, rfl⟩ := rk
  refine setR_add (setO_get I hD) room fun h2 kept made => q _ ?_
  obtain ⟨o, _, _, _, ho, _⟩ := id made
  exact I.write (e := D) (t' := s.toks + 1) (by rw [hD]; trivial) (.inl rfl) (fun b u hb hu => (kept.2 b hb).trans hu) ⟨o, ho⟩ (setO_new made)
theorem si_core {pins : List (Addr × Obj)} {s : Shared} {σ : L2.St} {H : Hp} {Q : VK} {elt tg iter : Expr} {ifs : List Expr} {scope : Scope} {own : List (PySem.Str × Nat)} {pos pos' : Pos} {wi : TI} {g : TG} {tt : TT} {te : TE} {use : Option (Value → Sem Unit)} {Qf : Value → Shared → Prop}
    (calm : X.calm = true) (nd : X.N.Nodup) (I : Inv X pins σ H s) (pit : PI X tg iter wi) (ok : BlkOk X.N X.env.scope scope own)
    (ptg : ∀ s H C cl fp, PG (X.blk s H scope (compEnvC scope cl C X.env) fp) tg g) (pif : ∀ s H C cl fp, PTs (X.blk s H scope (compEnvC scope cl C X.env) fp) ifs tt)
    (pel : ∀ s H C cl fp, PE (X.blk s H scope (compEnvC scope cl C X.env) fp) elt te) (fold : ∀ x, foldedSetIterable iter X.env x = pure x) (q0 : tSi X.w wi g tt te (own.map (·.2)) σ H Q)
    (out : ∀ D C s' m Hz, Inv X pins σ Hz s' → Q (.ref D) Hz → s'.heap.Ns C m → FpOk X pins Hz C → compPost (model X.prog X.w) X.A X.xe use Qf (.ref D) C (.ok .next) s') :
    wpAny (model X.prog X.w) X.A (comprehension (.SetComp elt [⟨tg, iter, ifs, 0⟩] scope pos) scope X.env pos' (newSet (.type "set")) false (eval iter X.env) use) Qf X.xe s := by
  have frees : ∀ y ∈ scope.names, y.2 = .free → ∃ c, X.env.cells.lookup y.1 = some c := fun y hy e => (ok.free y hy e).elim (fun z => I.ok.has _ (.inl z)) fun z => I.ok.has _ (.inr z)
  refine wpAny_comprehension_free (use := use) rfl fold (closure_ok frees) ok.kind (fun y hy e => by rw [ok.uniq y hy, e]) (thn (pit.run pins s σ H _ I q0) fun _ sa ha => thn ha fun _ sb hb => ?_)
  obtain ⟨it, fp, tn, J, Ha, rfl, Ib, T, stb, fb, q⟩ := hb
  refine newSet_ok (newEnv_comp ?_)
  generalize eD : sb.heap.objs.size = D
  obtain ⟨W, ⟨m0, w0⟩, turn⟩ := q D (Ib.hok.fresh (Nat.le_of_eq eD))
  generalize ec : ({ sb with heap := sb.heap.push { cls := .type "set", dict := none, data := .set #[] 0 (.fresh 0 0 (!X.w.params.followText "set-order")) } } : Shared) = sc
  have hc : sc.heap = sb.heap.push { cls := .type "set", dict := none, data := .set #[] 0 (.fresh 0 0 (!X.w.params.followText "set-order")) } := by rw [← ec]
  have Ic : Inv X pins σ (upd Ha D (set0 X.w D)) sc := by
    rw [← ec]
    refine Ib.laid (t' := sb.toks) (fun b o e => Heap.get?_push_of_some _ e) (Nat.le_of_eq eD) ?_
    rw [← eD]
    exact setO_new (setR_fresh X.w)
  have low : ∀ b ∈ fp, b < sb.heap.objs.size := fun b hb => let ⟨o, e, _⟩ := T.obj _ _ stb b hb; Heap.lt_size e
  have fc : ∀ b ∈ fp, FpOk X pins (upd Ha D (set0 X.w D)) b ∧ b < sc.heap.objs.size := fun b hb => by
    have lt := low b hb
    have ne : b ≠ D := fun z => Nat.lt_irrefl _ (by rw [← eD] at z; rw [z] at lt; exact lt)
    exact ⟨⟨by rw [upd_ne ne]; exact (fb b hb).1, (fb b hb).2⟩, by rw [hc, Heap.size_push]; exact Nat.lt_succ_of_lt lt⟩
  have stc : tn 0 sc.heap := T.keep _ _ _ stb fun b _ o e => by rw [hc]; exact Heap.get?_push_of_some _ e
  have Id := block_start Ic ok nd fc
  have pg := ptg sc (upd Ha D (set0 X.w D)) sc.heap.objs.size (cellsFrom (sc.heap.objs.size + 1) scope.names (cloFrom X.env.cells scope.names [])) fp
  have pt := pif sc (upd Ha D (set0 X.w D)) sc.heap.objs.size (cellsFrom (sc.heap.objs.size + 1) scope.names (cloFrom X.env.cells scope.names [])) fp
  have pe := pel sc (upd Ha D (set0 X.w D)) sc.heap.objs.size (cellsFrom (sc.heap.objs.size + 1) scope.names (cloFrom X.env.cells scope.names [])) fp
  show codeAny _ _ (.compStart (.SetComp elt [⟨tg, iter, ifs, 0⟩] scope pos) 0 (.ref it) (.ref D) (compEnvC scope (cellsFrom (sc.heap.objs.size + 1) scope.names (cloFrom X.env.cells scope.names [])) sc.heap.objs.size X.env))
    (compPost (model X.prog X.w) X.A X.xe use Qf (.ref D) sc.heap.objs.size) { sc with heap := pushCells (sc.heap.push { cls := .type "dict", data := .dict #[] }) scope.names }
  have nf : ∀ b ∈ fp, (upd Ha D (set0 X.w D)) b = none := fun b hb => (fc b hb).1.1
  generalize ee : compEnvC scope (cellsFrom (sc.heap.objs.size + 1) scope.names (cloFrom X.env.cells scope.names [])) sc.heap.objs.size X.env = en at Id pg pt pe ⊢
  have loc : en.locals = sc.heap.objs.size := by subst ee; rfl
  generalize eh : upd Ha D (set0 X.w D) = Hc at Ic Id pg pt pe w0 nf fc
  generalize ed : ({ sc with heap := pushCells (sc.heap.push { cls := .type "dict", data := .dict #[] }) scope.names } : Shared) = sd at Id ⊢
  have std : tn 0 sd.heap := T.keep _ _ _ stc fun b _ o e => by rw [← ed]; exact pushCells_keeps _ _ _ _ (Heap.get?_push_of_some _ e)
  have quiet : ∀ {σx : L2.St} {Hx : Hp} {sx : Shared}, Inv (X.blk sc Hc scope en fp) [] σx Hx sx → (∀ b ∈ fp, Hx b = none) → ∀ b ∈ fp, FpOk (X.blk sc Hc scope en fp) [] Hx b := fun Ix hn b hb =>
    ⟨hn b hb, (Ix.ok.exf b hb).1, Ix.ok.exfs b hb, .inl hb, fun x c e => (Ix.ok.exf b hb).2 x c e, fun p hp => absurd (show p ∈ ([] : List (Addr × Obj)) ++ [] from hp) (by simp)⟩
  have loop : codeAny (model X.prog X.w) X.A (.compLoop (.SetComp elt [⟨tg, iter, ifs, 0⟩] scope pos) 0 (.ref it) (.ref D) en) (compPost (model X.prog X.w) X.A X.xe use Qf (.ref D) sc.heap.objs.size) sd := by
    refine compLoopS_any (fun n sx => ∃ i Hx, Inv (X.blk sc Hc scope en fp) [] (wipe σ (own.map (·.2))) Hx sx ∧ tn i sx.heap ∧ (∀ b ∈ fp, Hx b = none) ∧ W i n Hx) ?_ m0 ⟨0, Hc, Id, std, nf, w0⟩
    rintro n se ⟨i, He, Ie, ste, ne, we⟩
    rcases turn i n He we with ⟨stop, last⟩ | ⟨go, Nx, fewer, step⟩
    · refine thnF (T.done (X.blk sc Hc scope en fp) rfl rfl rfl calm i [] se _ He (fun _ _ => False) Ie (quiet Ie ne) ste stop) fun r sf ⟨er, If⟩ => ?_
      subst er
      have back : Inv X pins σ He sf := Ic.call' (ch := fp) If.os If.base If.hok If.bare fun b hb => let z := (fc b hb).1.2; ⟨z.2.2.1, z.1, z.2.2.2.1, z.2.2.2.2⟩
      have free : He sc.heap.objs.size = none := by rw [← loc]; exact If.free
      obtain ⟨m, ns, _⟩ := If.loc
      have ns2 : sf.heap.Ns sc.heap.objs.size m := by rw [← loc]; exact ns
      exact out D sc.heap.objs.size sf m He back last ns2 (Ic.fpOk (Nat.le_refl _) free)
    · refine thnF (T.item (X.blk sc Hc scope en fp) rfl rfl rfl calm i [] se _ He (fun _ _ => False) Ie (quiet Ie ne) ste go) fun r sf ⟨u, er, hf⟩ => ?_
      subst er
      refine thnF hf fun _ sg ⟨x, Hg, Ig, rx, yl, stg, ng⟩ => ?_
      refine thnF (pg.run _ sg _ Hg x u _ (Ig.pinned (quiet Ig ng) (T.obj _ _ stg)) rx (step x Hg yl)) fun _ sh ⟨σh, Hh, Ih, wh, qh⟩ => ?_
      refine thnF (pt.run _ sh σh Hh _ Ih qh) fun b si ⟨Hi, Ii, qi⟩ => ?_
      have close : ∀ {sx : Shared} {Hx : Hp}, Inv (X.blk sc Hc scope en fp) ([] ++ pinsAt fp sg.heap) σh Hx sx → Nx Hx →
          ∃ m, m < n ∧ ∃ i Hx, Inv (X.blk sc Hc scope en fp) [] (wipe σ (own.map (·.2))) Hx sx ∧ tn i sx.heap ∧ (∀ b ∈ fp, Hx b = none) ∧ W i m Hx := fun {sx Hx} Ix nx => by
        obtain ⟨m, lt, wx⟩ := fewer Hx nx
        have pinned : ∀ b ∈ fp, ∀ o, sg.heap.get? b = some o → sx.heap.get? b = some o ∧ Hx b = none := fun b hb o e => by
          have z := Ix.pin (b, o) (List.mem_append_right _ (List.mem_append_right _ (mem_pinsAt hb e)))
          exact ⟨z.1, z.2.1⟩
        have same : (wipe σ (own.map (·.2))).length = σh.length := by rw [← wh, wipe_length]
        refine ⟨m, lt, i + 1, Hx, (Ix.unpinned (pins := [])).weak same (fun j v e => ?_), T.keep _ _ _ stg fun b hb o e => (pinned b hb o e).1, fun b hb => ?_, wx⟩
        · rw [← wh] at e
          exact (wipe_some e).1
        · obtain ⟨o, e, _⟩ := T.obj _ _ stg b hb
          exact (pinned b hb o e).2
      cases b with
      | false =>
        simp only [Bool.false_eq_true, if_false] at qi ⊢
        exact close Ii qi
      | true =>
        simp only [if_true] at qi ⊢
        refine thnF (pe.run _ si σh Hi _ Ii qi) fun z sj ⟨y, Hj, Ij, ry, k, S, c, ey, hD, room, nx⟩ => ?_
        subst ey
        exact put_ok (X := X.blk sc Hc scope en fp) Ij hD ry room fun sk Ik => close Ik nx
  exact codeAny_compStart_set loop (T.self X.A 0 _ _ _ std loop)
theorem pe_si {elt tg iter : Expr} {ifs : List Expr} {scope : Scope} {own : List (PySem.Str × Nat)} {pos : Pos} {wi : TI} {g : TG} {tt : TT} {te : TE} (calm : X.calm = true) (nd : X.N.Nodup) (pit : PI X tg iter wi) (ok : BlkOk X.N X.env.scope scope own)
    (ptg : ∀ s H C cl fp, PG (X.blk s H scope (compEnvC scope cl C X.env) fp) tg g) (pif : ∀ s H C cl fp, PTs (X.blk s H scope (compEnvC scope cl C X.env) fp) ifs tt)
    (pel : ∀ s H C cl fp, PE (X.blk s H scope (compEnvC scope cl C X.env) fp) elt te) (fold : ∀ x, foldedSetIterable iter X.env x = pure x := by intro _; rfl) :
    PE X (.SetComp elt [⟨tg, iter, ifs, 0⟩] scope pos) (tSi X.w wi g tt te (own.map (·.2))) := by
  refine ⟨fun pins s σ H Q I h => ?_⟩
  rw [eval_SetComp]
  refine si_core calm nd I pit ok ptg pif pel fold h fun D C sx m Hx Ix q ns f => ⟨m, ns, fun h2 sb => ?_⟩
  exact ⟨.ref D, Hx, Ix.turned (t' := sx.toks) (fun b o hb e => (sb.2 b hb).trans e) f.1 f.2.1 f.2.2.2.1 f.2.2.2.2.1 f.2.2.2.2.2, rfl, q⟩
end
end K75
-- part R7
set_option Elab.async false
set_option linter.all false
set_option maxRecDepth 100000
set_option maxHeartbeats 4000000
namespace K75
open PySem PySem.Spec PyProof.Rows L2
section
variable {X : Cx} {e : Expr} {te : TE} {p apos cpos pos : Pos}
theorem vals_at : ∀ {us : List Value} {vs : List (Key × Value)} {kvs : List (Key × V)}, KV kvs vs → us.length = vs.length → (∀ (j : Nat) (v : Value), us[j]? = some v → ∃ k, vs[j]? = some (k, v)) → Vals (kvs.map (·.2)) us
  | [], _, _, .nil, _, _ => .nil
  | u :: us, _, _, .cons r t, hl, h => by
    obtain ⟨k, ek⟩ := h 0 u rfl
    have ek2 := Option.some.inj ek
    refine .cons ?_ (vals_at t (Nat.succ.inj hl) fun j v ev => ?_)
    · have := r.2
      rw [ek2] at this
      exact this
    · obtain ⟨k, ek⟩ := h (j + 1) v ev
      exact ⟨k, ek⟩
  | [], _, _, .cons r t, hl, _ => by cases hl
  | _ :: _, _, _, .nil, hl, _ => by cases hl
/-- list(d.values()) -/
def tListVals (te : TE) : TE := fun σ H Q => te σ H fun x H1 => ∃ (d : Addr) (kvs : List (Key × V)), x = .ref d ∧ H1 d = some (.dK kvs) ∧ ∀ q, H1 q = none → Q (.ref q) (upd H1 q (.lst (kvs.map (·.2))))
theorem pe_listVals (calm : X.calm = true) (he : PE X e te) (hg : Gl X "list") (hm : X.mg "list" = none) (hv : bootBuiltins "list" = some (.type "list")) (hbase : attributeBase e "values" X.env (eval e X.env) = eval e X.env := by rfl) (hline : (apos.endLine == cpos.line) = true := by rfl)
    (hs : starEach [.Call (.Attribute e "values" apos) [] [] cpos] X.env = (false, eval (.Call (.Attribute e "values" apos) [] [] cpos) X.env) :: starEach [] X.env := by rfl) :
    PE X (.Call (.Name "list" p) [.Call (.Attribute e "values" apos) [] [] cpos] [] pos) (tListVals te) := by
  refine ⟨fun pins s σ H Q I hq => ?_⟩
  refine wpAny_Call_Name_kw (ld_blt I hg hm hv ?_)
  refine PyProof.Rows.callWith_type1 ?_ hs rfl
  rw [hs]
  show wpAny _ _ (spliced ((false, eval (.Call (.Attribute e "values" apos) [] [] cpos) X.env) :: backTo pos (starEach [] X.env))) _ _ s
  refine Calls.spliced_cons (wpAny_Call_method (T := "dict") (id := "dict.values") hbase rfl hline PySem.F.plainAttrs_dict PySem.F.slot_dict_values PySem.F.type_dict_values (thn (he.run pins s σ H _ I hq) fun u sa ⟨x, Ha, Ia, rx, d, kvs, ex, hd, q⟩ => ?_))
  subst ex
  obtain rfl : u = Value.ref d := rx
  obtain ⟨hz, lo, vs, kv, dof⟩ := Ia.hok d _ hd
  obtain ⟨ep, hat⟩ := dof.dictAt
  have lk : kvs.length = vs.length := KV.length kv
  have Ib : Inv X pins σ Ha { sa with heap := sa.heap.push { cls := .type "dict_values", data := .fields #[.ref d] } } := Ia.kept (t' := sa.toks) fun b ob z => Heap.get?_push_of_some _ z
  refine ⟨dof.typeIs, dof.mapOf.noDict, ?_⟩
  show wpAny _ _ (callWith cpos (.builtin "dict.values") [.ref d] [] []) _ X.xe sa
  refine method_meetsIn PySem.F.slot_dict_values PySem.F.entry_dict_values rfl (PySem.evalArgs_none ⟨rfl, dof.typeIs, PySem.F.args_dict_values_1 _, _, meets_dict_values (mixKind X.prog X.w) d lo, ⟨vs, dof⟩, ?_⟩)
  refine Calls.spliced_nil ?_
  refine PySem.W.kdl_call (PySem.W.kdl_values (knd := mixKind X.prog X.w) (kvs := vs) (ep := ep)) (Ia.ok.hd calm) ⟨⟨_, Heap.get?_push_size _ rfl, rfl, rfl⟩, hat.push _⟩ (by omega) fun hh tk acc c kept made items => ?_
  have fresh := Ib.hok.fresh (Nat.le_refl _)
  refine ⟨.ref _, _, Ib.laid (t' := tk) kept (Nat.le_refl _) (show ObjOk X.prog X.w _ _ _ (.lst (kvs.map (·.2))) from ⟨by rw [List.length_map]; exact hz, acc.toList, c, ?_, by rw [Array.toArray_toList]; exact made⟩), rfl, q _ fresh⟩
  exact vals_at kv (by rw [Array.length_toList]; exact items.1) fun j v ev => items.2 j v (by rw [← Array.getElem?_toList]; exact ev)
end
end K75
-- part P4
set_option Elab.async false
set_option linter.all false
set_option maxRecDepth 100000
set_option maxHeartbeats 4000000
namespace K75
open PySem PySem.Spec PyProof.Rows L2
theorem pg_tupK {X : Cx} {K : PySem.W.Frag} {es : List Expr} {k : Nat} {t : TGs} {n : Nat} {pos : Pos} (hK : X.K = K) (hc : X.calm = true) (h : PGs X es t)
    (hn : (assignEach es X.env).length = n := by rfl) (hst : (assignEach es X.env).findIdx? (·.1) = none := by rfl) : PG X (.Tuple es k pos) (gTup K n t) := by
  subst hK
  exact pg_tup hc h hn hst
theorem kp_unlock {H H' : Hp} {d : Addr} {u : HO} (h : H d = some u) (k : Kp [d] H H') : Kp [] H (upd H' d u) := fun b o e _ => by
  by_cases z : b = d
  · subst z
    rw [upd_same, ← h, e]
  · rw [upd_ne z]
    exact k b o e (by simpa using z)
theorem all_true (n : Nat) : (List.replicate n true).all id = true := by
  rw [List.all_eq_true]
  intro x hx
  rw [List.eq_of_mem_replicate hx]
  rfl
section
variable {P : Program} {w : World} {K : PySem.W.Frag} {mg : Str → Option Value} {base : Heap} {CB CC CF : Addr}
def sp_are_prices : Sp := fun vs H Q _ => ∃ (d : Addr) (bk : Bk), vs = [.ref d] ∧ H d = some (.dK (dB bk)) ∧ GoodBook bk ∧ ∀ H', Kp [] H H' → Q (.bl true) H'
theorem c_p_are_prices (T : Ty K mg CB CC CF) : C8.Cal P w K mg base 4 "are_prices" sp_are_prices [] := by
  refine cal_of T.d_p_are_prices sc_p_are_prices (fun _ _ _ _ _ _ us hl => match us, hl with | [_], _ => rfl) (fun vs H Q E h => ?_) (fun cdv A outer f s H vs Q E hr h => ?_)
  · obtain ⟨d, bk, rfl, _⟩ := h
    rfl
  · obtain ⟨d, bk, rfl, hd, g, q⟩ := h
    have h3 : sizeLine = 16777216 := sizeLine_eq
    have h12 := g.le
    have h1 := g.ne
    refine ⟨_, (pss_cons (ps_if (PW.pt (pw_or (pt_not (pt_val (pe_callB (cr_isi (K := K) rfl) (by rfl) T.n_isinstance (by decide +kernel) (pa_cons (pv 0) (pa_cons (pe_bltn (v := .ty "dict") (u := .type "dict") (by rfl) T.n_dict (by decide +kernel) rfl) pa_nil))))) (pw_or1 (pt_not (pt_chain op_le op_le pe_int (pe_callB call_lenD (by rfl) T.n_len (by decide +kernel) (pa_cons (pv 0) pa_nil)) (C8.pe_gc (v := .int 12) (by rfl) (gi T.g_MAX_PIECES)))))))
    (pss_one (ps_ret pe_bl))
    pss_nil)
  (pss_cons (ps_if (pt_not (pt_val (pe_callB (cr_all rfl) (by rfl) T.n_all (by decide +kernel) (pa_cons (pe_lock (pe_lc (own := [("piece", 1), ("price", 3)]) rfl sc_p_are_prices.nd (pi_items (pv 0)) (blkOk_by (own := [("piece", 1), ("price", 3)]) (N := N_p_are_prices) (sc := (defScope s_p_are_prices)) (by decide +kernel)) (fun _ _ _ _ _ => (pg_tupK (K := K) (n := 2) rfl (by rfl) (pgs_cons (pg_name (i := 1) sc_p_are_prices.nd rfl (Or.inl rfl)) (pgs_cons (pg_name (i := 3) sc_p_are_prices.nd rfl (Or.inl rfl)) pgs_nil)))) (fun _ _ _ _ _ => pts_nil) (fun _ _ _ _ _ => (pe_and (C8.pe_c (c_p_is_piece T) hr (by decide) (by rfl) (pa_cons (pv 1) pa_nil)) (pe_one (C8.pe_c (c_p_is_price T) hr (by decide) (by rfl) (pa_cons (pv 3) pa_nil))))))) pa_nil))))
    (pss_one (ps_ret pe_bl))
    pss_nil)
  (pss_cons (ps_if (pt_cmpR op_gt (pe_callB call_len_seq (by rfl) T.n_len (by decide +kernel) (pa_cons (pe_lock (pe_lc (own := [("piece", 1)]) (g := gName 1) rfl sc_p_are_prices.nd (pi_keys (pv 0)) (blkOk_by (own := [("piece", 1)]) (N := N_p_are_prices) (sc := (defScope s_p_are_prices)) (by decide +kernel)) (fun _ _ _ _ _ => (pg_name (i := 1) sc_p_are_prices.nd rfl (Or.inl rfl))) (fun _ _ _ _ _ => (pts_one (pt_cmpR op_eq (pe_callB call_lenT (by rfl) T.n_len (by decide +kernel) (pa_cons (pv 1) pa_nil)) pe_int (nomark _)))) (fun _ _ _ _ _ => (pv 1)))) pa_nil)) (C8.pe_gc (v := .int 4) (by rfl) (gi T.g_MAX_ALPHABET)) (nomark _))
    (pss_one (ps_ret pe_bl))
    pss_nil)
  (pss_one (ps_ret (pe_callB (cr_all rfl) (by rfl) T.n_all (by decide +kernel) (pa_cons (pe_lock (pe_lc2 (own := [("piece", 1), ("sign", 2)]) (vs1 := [2]) (g := gName 1) (g1 := gName 2) rfl sc_p_are_prices.nd (pi_keys (pv 0)) (blkOk_by (own := [("piece", 1), ("sign", 2)]) (N := N_p_are_prices) (sc := (defScope s_p_are_prices)) (by decide +kernel)) (by decide) (fun _ _ _ _ _ => (pg_name (i := 1) sc_p_are_prices.nd rfl (Or.inl rfl))) (fun _ _ _ _ _ => pts_nil) (fun _ _ _ _ _ => (pi_str (pv 1))) (fun _ _ _ _ _ => (pg_name (i := 2) sc_p_are_prices.nd rfl (Or.inl rfl))) (fun _ _ _ _ _ => pts_nil) (fun _ _ _ _ _ => (pe_cmp (pc_din (hu1 hr) (pv 2) (pv 0)) rfl)))) pa_nil))))))), ?_⟩
    refine ⟨_, rfl, _, _, _, _, true, rfl, .ty _, .base (.dK hd), kit_ty (by decide +kernel), _, rfl, ?_⟩
    refine ⟨_, rfl, _, _, rfl, hd, _, _, rfl, rfl, _, rfl, iteT' (decide_eq_true (by rw [dV_length]; omega)) ⟨_, _, rfl, rfl, _, rfl, ?_⟩⟩
    rw [dV_length, decide_eq_true (show ((bk.length : Nat) : Int) ≤ 12 by omega)]
    have hfrz : ∀ od : Obj, Kp [d] H (upd H d (.frz od (.dK (dB bk)))) := fun od => (kp_refl H).up (.inr (by simp))
    -- the items
    refine ⟨d, _, hd, trivial, fun od => ⟨_, rfl, d, od, dB bk, rfl, upd_same, fun D hD => ?_⟩⟩
    have hDd : D ≠ d := by
      rintro rfl
      rw [upd_same] at hD
      cases hD
    have hD0 : H D = none := by rw [upd_ne hDd] at hD; exact hD
    refine lc_it (walk_items (d := d) (o := od) (kvs := dB bk)) (fun i H' => Kp [d] H H' ∧ H' d = some (.frz od (.dK (dB bk))) ∧ H' D = some (.lst (List.replicate i (.bl true)))) ?_ (fun i H' _ h => h.2.1) ?_ ?_
    · exact ⟨(hfrz od).up (.inl hD0), by rw [upd_ne hDd.symm, upd_same], upd_same⟩
    · rintro i x H1 H2 hi ⟨hk, hd1, hD1⟩ ⟨T1, y, z, rfl, hT, rfl, e1, e2⟩
      rw [dV_length] at hi
      have hpm : bk[i] ∈ bk := List.getElem_mem hi
      have e3 : y = tv bk[i].1 := by
        simp only [dB, dV, List.getElem?_map, List.getElem?_eq_getElem hi, Option.map_some, Option.some.injEq] at e1
        exact e1.symm
      have e4 : z = .int bk[i].2 := by
        simp only [dB, dV, List.getElem?_map, List.getElem?_eq_getElem hi, Option.map_some, Option.some.injEq] at e2
        exact e2.symm
      subst e3
      subst e4
      have hT0 : H T1 = none := by
        refine hk.free hT ?_
        rintro h
        rw [List.mem_singleton.mp h, hd1] at hT
        cases hT
      refine ⟨T1, _, rfl, SqT.of upd_same, rfl, _, _, rfl, _, _, rfl, rfl, ?_⟩
      refine ⟨rfl, _, rfl, _, rfl, g.lt _ hpm, (g.ln _ hpm).1, (g.ln _ hpm).2, fun H3 hk3 => ⟨_, rfl, _, rfl, _, rfl, (g.pr _ hpm).1, (g.pr _ hpm).2, ?_⟩⟩
      have hk4 : Kp [] H1 H3 := ((kp_refl H1).up (.inl hT)).trans hk3
      have hD3 := hk4 _ _ hD1 (by simp)
      refine ⟨_, hD3, ?_, ?_⟩
      · rw [List.length_replicate]
        omega
      · refine ⟨(hk.trans (hk4.any [d])).up (.inl hD0), ?_, ?_⟩
        · rw [upd_ne hDd.symm]
          exact hk4 _ _ hd1 (by simp)
        · rw [upd_same, List.replicate_succ']
    · rintro H1 ⟨hk, hd1, hD1⟩
      refine ⟨hd1, ?_⟩
      rw [dV_length] at hD1
      have hkA : Kp [] H (upd H1 d (.dK (dB bk))) := kp_unlock hd hk
      have hDA : upd H1 d (.dK (dB bk)) D = some (.lst (List.replicate bk.length (.bl true))) := by rw [upd_ne hDd]; exact hD1
      generalize upd H1 d (.dK (dB bk)) = H2 at hkA hDA
      refine ⟨D, List.replicate bk.length true, rfl, SqL.of (by rw [List.map_replicate]; exact hDA), _, rfl, ?_⟩
      rw [all_true]
      -- the single signs
      have hd2 := hkA _ _ hd (by simp)
      refine comp_keys bk (fun p => decide (p.1.length = 1)) (fun p => tv p.1) (fun H R h => ⟨_, rfl, h⟩) hd2 (by omega) ?_ ?_
      · intro od D hD hne p hp acc Nx hz h1 h2
        have := (g.ln p hp).2
        refine ⟨rfl, _, rfl, _, rfl, by omega, rfl, _, rfl, ite2 (fun hc => ?_) (fun hc => ?_)⟩
        · have e : p.1.length = 1 := by
            have := V.int.inj (of_decide_eq_true hc)
            omega
          exact ⟨_, rfl, acc, upd_same, hz, by rw [upd_upd]; exact h1 (decide_eq_true e)⟩
        · refine h2 (decide_eq_false fun e => ?_)
          rw [e] at hc
          exact absurd hc (by decide)
      · intro D2 hD2
        have hon := g.on
        have hkB : Kp [] H (upd H2 D2 (.lst ((bk.filter fun p => decide (p.1.length = 1)).map fun p => tv p.1))) := hkA.up (.inl (hkA.free hD2 (by simp)))
        refine ⟨_, _, rfl, .inl (SqL.of upd_same), _, _, rfl, rfl, _, rfl, ?_⟩
        refine iteF' (decide_eq_false (by rw [List.length_map]; omega)) ?_
        -- all signs
        generalize upd H2 D2 (.lst ((bk.filter fun p => decide (p.1.length = 1)).map fun p => tv p.1)) = H4 at hkB
        have hd4 := hkB _ _ hd (by simp)
        refine ⟨d, _, hd4, trivial, fun od => ⟨_, rfl, d, od, rfl, .inl ⟨_, upd_same, fun D hD => ?_⟩⟩⟩
        have hDd : D ≠ d := by
          rintro rfl
          rw [upd_same] at hD
          cases hD
        have hD0 : H4 D = none := by rw [upd_ne hDd] at hD; exact hD
        refine ⟨fun i m H' => m = bk.length - i ∧ i ≤ bk.length ∧ ∃ n, n ≤ 5 * i ∧ H' = upd (upd H4 d (.frz od (.dK (dB bk)))) D (.lst (List.replicate n (.bl true))), ⟨_, rfl, Nat.zero_le _, 0, Nat.le_refl _, rfl⟩, ?_⟩
        rintro i m H5 ⟨rfl, hi, n, hn, rfl⟩
        have frz : upd (upd H4 d (.frz od (.dK (dB bk)))) D (.lst (List.replicate n (.bl true))) d = some (.frz od (.dK (dB bk))) := by rw [upd_ne hDd.symm, upd_same]
        by_cases hlt : i < bk.length
        · refine .inr ⟨⟨frz, by rw [dV_length]; exact hlt⟩, fun H' => ∃ n, n ≤ 5 * (i + 1) ∧ H' = upd (upd H4 d (.frz od (.dK (dB bk)))) D (.lst (List.replicate n (.bl true))), fun H' h => ⟨bk.length - (i + 1), by omega, rfl, by omega, h⟩, ?_⟩
          rintro x H6 ⟨rfl, k0, v0, e1, rfl⟩
          have e2 : k0 = kx bk[i].1 := by
            simp only [dB, dV, List.getElem?_map, List.getElem?_eq_getElem hlt, Option.map_some, Option.some.injEq, Prod.mk.injEq] at e1
            exact e1.1.symm
          subst e2
          have hpm : bk[i] ∈ bk := List.getElem_mem hlt
          have hl5 := (g.ln _ hpm).2
          refine ⟨rfl, _, rfl, SX.S bk[i].1, rfl, ?_⟩
          refine ⟨fun j m H' => m = bk[i].1.length - j ∧ j ≤ bk[i].1.length ∧ ∃ n, n ≤ 5 * i + j ∧ H' = upd (upd H4 d (.frz od (.dK (dB bk)))) D (.lst (List.replicate n (.bl true))), ⟨_, rfl, Nat.zero_le _, n, by omega, rfl⟩, ?_⟩
          rintro j m2 H7 ⟨rfl, hj, n2, hn2, rfl⟩
          by_cases hlt2 : j < bk[i].1.length
          · refine .inr ⟨hlt2, fun H' => ∃ n, n ≤ 5 * i + (j + 1) ∧ H' = upd (upd H4 d (.frz od (.dK (dB bk)))) D (.lst (List.replicate n (.bl true))), fun H' h => ⟨bk[i].1.length - (j + 1), by omega, rfl, by omega, h⟩, ?_⟩
            rintro x H8 ⟨rfl, c, e3, rfl⟩
            have e4 : bk[i].1[j]? = some c := by simpa using e3
            have hin : [c] ∈ bk.map (·.1) := g.sg _ hpm c (List.mem_of_getElem? e4)
            have hg : (Option.map V.int (getA bk [c])).isSome = true := by rw [Option.isSome_map, getA_isSome]; exact decide_eq_true hin
            refine ⟨rfl, _, rfl, _, rfl, _, _, rfl, dget_frz (f := V.int) (H := H4) (acc := List.replicate n2 (.bl true)) hDd [c], List.replicate n2 (.bl true), upd_same, ?_, n2 + 1, by omega, ?_⟩
            · rw [List.length_replicate]
              omega
            · rw [upd_upd, hg, List.replicate_succ']
          · have e : j = bk[i].1.length := by omega
            exact .inl ⟨by show (SX.S bk[i].1).cps.size ≤ j; rw [e]; simp, n2, by omega, rfl⟩
        · have e : i = bk.length := by omega
          refine .inl ⟨⟨frz, by rw [dV_length, e]; exact Nat.le_refl _⟩, frz, ?_⟩
          rw [upd_lock hd4 hDd]
          refine ⟨D, List.replicate n true, rfl, SqL.of (by rw [List.map_replicate, upd_same]), ?_⟩
          show Q (.bl _) _
          rw [all_true]
          exact q _ (hkB.up (.inl (hkB.free hD0 (by simp))))
end
end K75
-- part P5
set_option Elab.async false
set_option linter.all false
set_option maxRecDepth 100000
set_option maxHeartbeats 4000000
namespace K75
open PySem PySem.Spec PyProof.Rows L2
/-- a dict comprehension over a list of different texts, without effects -/
theorem dc_texts {β : Type} {f : β → V} {K : PySem.W.Frag} {a : Addr} {g : TG} {tt : TT} {tk tz : TE} {vs : List Nat} {σ : L2.St} {H1 : Hp} {D : Addr} {Qd : Hp → Prop} (xs : List Tx0) (vf : Tx0 → β) (nd : xs.Nodup)
    (hG : ∀ kvs, SqL K (upd H1 D (.dK kvs)) a (xs.map tv)) (hz : xs.length < sizeLine)
    (hs : ∀ t ∈ xs, ∀ kvs (Nx : Hp → Prop), kvs.length < sizeLine → Nx (upd H1 D (.dK (putK kvs (kx t) (f (vf t))))) → g (tv t) (wipe σ vs) (upd H1 D (.dK kvs)) fun σ2 H2 => wipe σ2 vs = wipe σ vs ∧ tt σ2 H2 fun b H3 =>
      if b = true then tk σ2 H3 fun y H4 => tz σ2 H4 fun z H5 => ∃ kvs k, y = kV k ∧ H5 D = some (.dK kvs) ∧ kvs.length < sizeLine ∧ Nx (upd H5 D (.dK (putK kvs k z))) else Nx H3)
    (hd : Qd (upd H1 D (.dK (dV f (xs.map fun t => (t, vf t)))))) :
    ∃ W : Nat → Nat → Hp → Prop, (∃ m, W 0 m (upd H1 D (.dK []))) ∧ ∀ i m H, W i m H →
      ((Itl K a).stop i H ∧ Qd H) ∨ ((Itl K a).go i H ∧ ∃ Nx : Hp → Prop, (∀ H', Nx H' → ∃ m', m' < m ∧ W (i + 1) m' H') ∧ ∀ x H', (Itl K a).yld i H x H' → g x (wipe σ vs) H' fun σ2 H2 => wipe σ2 vs = wipe σ vs ∧ tt σ2 H2 fun b H3 =>
        if b = true then tk σ2 H3 fun y H4 => tz σ2 H4 fun z H5 => ∃ kvs k, y = kV k ∧ H5 D = some (.dK kvs) ∧ kvs.length < sizeLine ∧ Nx (upd H5 D (.dK (putK kvs k z))) else Nx H3) := by
  refine ⟨fun i m H => m = xs.length - i ∧ i ≤ xs.length ∧ H = upd H1 D (.dK (dV f ((xs.take i).map fun t => (t, vf t)))), ⟨_, rfl, Nat.zero_le _, rfl⟩, ?_⟩
  rintro i m H ⟨rfl, hi, rfl⟩
  have q := hG (dV f ((xs.take i).map fun t => (t, vf t)))
  by_cases hlt : i < xs.length
  · refine .inr ⟨⟨xs.map tv, tv xs[i], q, by simp [hlt]⟩, fun H => H = upd H1 D (.dK (dV f ((xs.take (i + 1)).map fun t => (t, vf t)))), fun H' h => ⟨xs.length - (i + 1), by omega, rfl, by omega, h⟩, ?_⟩
    rintro x H' ⟨rfl, y⟩
    have e : x = tv xs[i] := by
      have := y _ q
      rw [List.getElem?_map, List.getElem?_eq_getElem hlt] at this
      exact (Option.some.inj this).symm
    subst e
    refine hs xs[i] (List.getElem_mem hlt) _ _ ?_ ?_
    · rw [dV_length, List.length_map, List.length_take]
      omega
    · have hn : xs[i] ∉ ((xs.take i).map fun t => (t, vf t)).map (·.1) := by
        rw [List.map_map]
        have e2 : (xs.take i).map ((·.1) ∘ fun t => (t, vf t)) = xs.take i := by
          rw [show ((·.1) ∘ fun t : Tx0 => (t, vf t)) = id from rfl, List.map_id]
        rw [e2]
        have nd2 := nd
        rw [← List.take_append_drop i xs, List.drop_eq_getElem_cons hlt] at nd2
        exact fun h => (List.nodup_append.mp nd2).2.2 _ h _ (List.mem_cons_self ..) rfl
      rw [putK_dV, putA_new hn, List.take_add_one, List.getElem?_eq_getElem hlt, List.map_append]
      rfl
  · have e : i = xs.length := by omega
    subst e
    refine .inl ⟨⟨xs.map tv, q, by rw [List.length_map]; exact Nat.le_refl _⟩, ?_⟩
    rw [List.take_length]
    exact hd
theorem ones_of : ∀ l : List Tx0, ∃ ac : Tx0, l.filter (fun t => decide (t.length = 1)) = ac.map fun c => [c]
  | [] => ⟨[], rfl⟩
  | t :: l => by
    obtain ⟨ac, h⟩ := ones_of l
    by_cases e : t.length = 1
    · obtain ⟨c, rfl⟩ := one_of_len e
      exact ⟨c :: ac, by rw [List.filter_cons_of_pos (by simp), h]; rfl⟩
    · exact ⟨ac, by rw [List.filter_cons_of_neg (by simpa using e), h]⟩
section
variable {P : Program} {w : World} {K : PySem.W.Frag} {mg : Str → Option Value} {base : Heap} {CB CC CF : Addr}
def sp_Book (CB : Addr) : Sp := fun vs H Q _ => ∃ (a dx d : Addr) (bk : Bk), vs = [.ref a, .ref d] ∧ H a = some (.ins CB dx []) ∧ H d = some (.dK (dB bk)) ∧ GoodBook bk ∧
  ∀ (bl : Bk) (H' : Hp), bl.Perm bk → BookH CB H' a bl → Kp [a] H H' → Q .non H'
theorem c_Book (T : Ty K mg CB CC CF) : C8.Mak P w K mg base 5 "Book" CB (sp_Book CB) [] := by
  refine mak_of T.i_Book sc_p_Book___init__ (fun _ _ _ _ _ _ us hl => match us, hl with | [_, _], _ => rfl) (fun vs H Q E h => ?_) (fun cdv A outer f s H vs Q E hr h => ?_)
  · obtain ⟨a, dx, d, bk, rfl, _⟩ := h
    rfl
  · obtain ⟨a, dx, d, bk, rfl, ha, hd, g, k⟩ := h
    have h3 : sizeLine = 16777216 := sizeLine_eq
    refine ⟨_, (pss_cons (ps_if (pt_not (pt_val (C8.pe_c (c_p_are_prices T) hr (by decide) (by rfl) (pa_cons (pv 1) pa_nil))))
    (pss_one ps_never)
    pss_nil)
  (C8.pss_cut (ps_fld (pv 0) (pe_dc (own := [("piece", 2)]) (g := gName 2) rfl sc_p_Book___init__.nd (pi_list (pe_callB cr_sortedS (by rfl) T.n_sorted (by decide +kernel) (pa_cons (pe_callTy (call_listD rfl) (by rfl) T.n_list (by decide +kernel) (pa_cons (pv 1) pa_nil)) pa_nil))) (blkOk_by (own := [("piece", 2)]) (N := N_p_Book___init__) (sc := (defScope s_p_Book___init__)) (by decide +kernel)) (fun _ _ _ _ _ => (pg_name (i := 2) sc_p_Book___init__.nd rfl (Or.inl rfl))) (fun _ _ _ _ _ => pts_nil) (fun _ _ _ _ _ => (pv 2)) (fun _ _ _ _ _ => (pe_dget (hu1 hr) (pv 1) (pv 2) (fun _ _ => rfl)))) rfl)
  (C8.pss_cut (ps_fld (pv 0) (pe_callTy call_tuple_of (by rfl) T.n_tuple (by decide +kernel) (pa_cons (pe_callTy (call_listD rfl) (by rfl) T.n_list (by decide +kernel) (pa_cons (pe_fldK (K := K) rfl (pv 0)) pa_nil)) pa_nil)) rfl)
  (C8.pss_cut (ps_fld (pv 0) (pe_callTy call_tuple_of (by rfl) T.n_tuple (by decide +kernel) (pa_cons (pe_lc (own := [("piece", 2)]) (g := gName 2) rfl sc_p_Book___init__.nd (pi_tup (pe_fldK (K := K) rfl (pv 0))) (blkOk_by (own := [("piece", 2)]) (N := N_p_Book___init__) (sc := (defScope s_p_Book___init__)) (by decide +kernel)) (fun _ _ _ _ _ => (pg_name (i := 2) sc_p_Book___init__.nd rfl (Or.inl rfl))) (fun _ _ _ _ _ => (pts_one (pt_cmpR op_eq (pe_callB call_lenT (by rfl) T.n_len (by decide +kernel) (pa_cons (pv 2) pa_nil)) pe_int (nomark _)))) (fun _ _ _ _ _ => (pv 2))) pa_nil)) rfl)
  (C8.pss_cut (ps_fld (pv 0) (pe_callB (cr_max rfl) (by rfl) T.n_max (by decide +kernel) (pa_cons (pe_lc (own := [("piece", 2)]) (g := gName 2) rfl sc_p_Book___init__.nd (pi_tup (pe_fldK (K := K) rfl (pv 0))) (blkOk_by (own := [("piece", 2)]) (N := N_p_Book___init__) (sc := (defScope s_p_Book___init__)) (by decide +kernel)) (fun _ _ _ _ _ => (pg_name (i := 2) sc_p_Book___init__.nd rfl (Or.inl rfl))) (fun _ _ _ _ _ => pts_nil) (fun _ _ _ _ _ => (pe_callB call_lenT (by rfl) T.n_len (by decide +kernel) (pa_cons (pv 2) pa_nil)))) pa_nil)) rfl)
  (pss_one (ps_fld (pv 0) (pe_callB (cr_max rfl) (by rfl) T.n_max (by decide +kernel) (pa_cons (pe_listVals rfl (pe_fldK (K := K) rfl (pv 0)) (by rfl) T.n_list (by decide +kernel)) pa_nil)) rfl))))))), ?_⟩
    refine ⟨_, rfl, d, bk, rfl, hd, g, fun H1 hk1 => ⟨_, rfl, ?_⟩⟩
    have ha1 := hk1 _ _ ha (by simp)
    have hd1 := hk1 _ _ hd (by simp)
    -- own_prices
    refine ⟨fun σ' H' => ∃ (D : Addr) (bl : Bk) (x : Option V), σ' = [some (.ref a), some (.ref d), x] ∧ bl.Perm bk ∧ Srt (pcs bl) ∧ Kp [a] H H' ∧ H' a = some (.ins CB dx [("own_prices", .ref D)]) ∧ H' D = some (.dK (dB bl)), ?_, ?_⟩
    refine ⟨_, rfl, d, dB bk, rfl, .inl hd1, fun l hl => ?_⟩
    have hna : a ≠ l := ne_of_none ha1 hl
    have hkl : Kp [] H (upd H1 l (.lst ((dB bk).map fun kv => kV kv.1))) := hk1.up (.inl (hk1.free hl (by simp)))
    have hll : upd H1 l (.lst ((dB bk).map fun kv => kV kv.1)) l = some (.lst ((pcs bk).map tv)) := by
      rw [upd_same]
      simp only [dB, dV, List.map_map]
      rfl
    generalize upd H1 l (.lst ((dB bk).map fun kv => kV kv.1)) = H2 at hkl hll
    refine ⟨l, (pcs bk).map SX.S, rfl, SqL.of (by rw [hll]; simp only [List.map_map]; rfl), by rw [List.length_map, List.length_map]; have := g.le; omega, fun ys q hys hso hq => ?_⟩
    obtain ⟨ls, rfl, hls, hsr⟩ := perm_S hys hso
    have hkq : Kp [] H (upd H2 q (.lst ((ls.map SX.S).map V.str))) := hkl.up (.inl (hkl.free hq (by simp)))
    have hqq : upd H2 q (.lst ((ls.map SX.S).map V.str)) q = some (.lst (ls.map tv)) := by
      rw [upd_same, List.map_map]
      rfl
    generalize upd H2 q (.lst ((ls.map SX.S).map V.str)) = H3 at hkq hqq
    have hlsl : ls.length = bk.length := by
      have := hls.length_eq
      rw [List.length_map] at this
      exact this
    have hlsn : ls.Nodup := hls.nodup_iff.mpr g.nd
    refine ⟨q, rfl, ⟨_, SqL.of hqq⟩, fun D hD => ?_⟩
    have hD0 : H D = none := hkq.free hD (by simp)
    have hqD := ne_of_none hqq hD
    have had := ne_of_none (hkq _ _ ha (by simp)) hD
    have hdD := ne_of_none (hkq _ _ hd (by simp)) hD
    refine dc_texts (f := V.int) ls (fun t => (getA bk t).getD 0) hlsn (fun kvs => SqL.of (by rw [upd_ne hqD]; exact hqq)) (by have := g.le; omega) ?_ ?_
    · intro t ht kvs Nx hz nx
      obtain ⟨p, hp, ep⟩ := List.mem_map.mp (hls.mem_iff.mp ht)
      have hg := getA_mem g.nd (show (p.1, p.2) ∈ bk from hp)
      rw [ep] at hg
      refine ⟨rfl, _, rfl, _, rfl, _, rfl, d, .int p.2, rfl, ?_, kvs, kx t, rfl, upd_same, hz, ?_⟩
      · exact dget_S (f := V.int) (by rw [upd_ne hdD]; exact hkq _ _ hd (by simp)) hg
      · rw [upd_upd]
        rw [hg] at nx
        exact nx
    have hbl : (ls.map fun t => (t, (getA bk t).getD 0)).Perm bk := by
      have h5 := hls.map fun t => (t, (getA bk t).getD 0)
      have e : (pcs bk).map (fun t => (t, (getA bk t).getD 0)) = bk := by
        rw [List.map_map]
        conv => rhs; rw [← List.map_id bk]
        refine List.map_congr_left fun p hp => ?_
        have hg := getA_mem g.nd (show (p.1, p.2) ∈ bk from hp)
        show (p.1, (getA bk p.1).getD 0) = id p
        rw [hg]
        rfl
      rw [e] at h5
      exact h5
    have hpb : pcs (ls.map fun t => (t, (getA bk t).getD 0)) = ls := by
      rw [pcs, List.map_map]
      exact List.map_id ls
    generalize (ls.map fun t => (t, (getA bk t).getD 0)) = bl at hbl hpb
    have gl : GoodBook bl := g.perm hbl
    subst hpb
    have hkD : Kp [] H (upd H3 D (.dK (dV V.int bl))) := hkq.up (.inl hD0)
    have haD := hkD _ _ ha (by simp)
    refine ⟨_, rfl, a, CB, dx, [], rfl, haD, T.cl_Book, T.no_Book_own_prices, by decide, ?_⟩
    exact ⟨D, bl, _, rfl, hbl, hsr, (hkD.any [a]).up (.inr (by simp)), upd_same, by rw [upd_ne had.symm, upd_same]⟩
    -- own_pieces
    rintro σ' H4 ⟨D, bl, x, rfl, hbl, hsr, hk4, ha4, hD4⟩
    have gl : GoodBook bl := g.perm hbl
    have h12 := gl.le
    refine ⟨fun σ' H' => ∃ (p : Addr), σ' = [some (.ref a), some (.ref d), x] ∧ Kp [a] H H' ∧ H' a = some (.ins CB dx [("own_prices", .ref D), ("own_pieces", .ref p)]) ∧ H' D = some (.dK (dB bl)) ∧ H' p = some (.tup ((pcs bl).map tv)), ?_, ?_⟩
    · refine ⟨_, rfl, a, CB, dx, _, _, rfl, ha4, T.cl_Book, T.no_Book_own_prices, rfl, D, dB bl, rfl, .inl hD4, fun l2 hl2 => ?_⟩
      have na2 := ne_of_none ha4 hl2
      have nD2 := ne_of_none hD4 hl2
      have hl20 : H l2 = none := hk4.free hl2 (by simpa using na2.symm)
      refine ⟨l2, _, rfl, .inl ⟨SqL.of upd_same, fun p hp => ?_⟩⟩
      have nap : a ≠ p := ne_of_none (show upd H4 l2 _ a = some _ by rw [upd_ne na2]; exact ha4) hp
      have nDp : D ≠ p := ne_of_none (show upd H4 l2 _ D = some _ by rw [upd_ne nD2]; exact hD4) hp
      have hkp : Kp [a] H (upd H4 l2 (.lst ((dB bl).map fun kv => kV kv.1))) := hk4.up (.inl hl20)
      have hp0 : H p = none := hkp.free hp (by simpa using nap.symm)
      have naD : D ≠ a := by
        rintro rfl
        rw [ha4] at hD4
        cases hD4
      refine ⟨_, rfl, a, CB, dx, _, rfl, by rw [upd_ne nap, upd_ne na2]; exact ha4, T.cl_Book, T.no_Book_own_pieces, by simp, ?_⟩
      refine ⟨p, rfl, (hkp.up (.inl hp0)).up (.inr (by simp)), upd_same, ?_, ?_⟩
      · rw [upd_ne naD, upd_ne nDp, upd_ne nD2]
        exact hD4
      · rw [upd_ne nap.symm, upd_same]
        simp only [dB, dV, List.map_map]
        rfl
    rintro σ' H5 ⟨p, rfl, hk5, ha5, hD5, hp5⟩
    -- own_alphabet
    refine ⟨fun σ' H' => ∃ (al : Addr) (ac : Tx0), σ' = [some (.ref a), some (.ref d), x] ∧ Kp [a] H H' ∧ H' a = some (.ins CB dx [("own_prices", .ref D), ("own_pieces", .ref p), ("own_alphabet", .ref al)]) ∧ H' D = some (.dK (dB bl)) ∧ H' p = some (.tup ((pcs bl).map tv)) ∧ H' al = some (.tup (ac.map sg)) ∧ (∀ c, c ∈ ac ↔ [c] ∈ pcs bl) ∧ ac.length ≤ 12, ?_, ?_⟩
    · refine ⟨_, rfl, a, CB, dx, _, _, rfl, ha5, T.cl_Book, T.no_Book_own_pieces, rfl, p, rfl, ⟨_, SqT.of hp5⟩, fun E0 hE => ?_⟩
      have naE := ne_of_none ha5 hE
      have nDE := ne_of_none hD5 hE
      have npE := ne_of_none hp5 hE
      have hE0 : H E0 = none := hk5.free hE (by simpa using naE.symm)
      refine comp_tup (pcs bl) tv (fun t => decide (t.length = 1)) tv (fun acc => SqT.of (by rw [upd_ne npE]; exact hp5)) (by rw [List.length_map]; omega) ?_ ?_
      · intro t ht acc Nx hz h1 h2
        have := (pcs_len gl ht).2
        refine ⟨rfl, _, rfl, _, rfl, by omega, rfl, _, rfl, ite2 (fun hc => ?_) (fun hc => ?_)⟩
        · have e : t.length = 1 := by
            have := V.int.inj (of_decide_eq_true hc)
            omega
          exact ⟨_, rfl, acc, upd_same, hz, by rw [upd_upd]; exact h1 (decide_eq_true e)⟩
        · refine h2 (decide_eq_false fun e => ?_)
          rw [e] at hc
          exact absurd hc (by decide)
      · have hkE : Kp [a] H (upd H5 E0 (.lst (((pcs bl).filter fun t => decide (t.length = 1)).map tv))) := hk5.up (.inl hE0)
        refine ⟨E0, _, rfl, .inl ⟨SqL.of upd_same, fun al hal => ?_⟩⟩
        have naal : a ≠ al := ne_of_none (show upd H5 E0 _ a = some _ by rw [upd_ne naE]; exact ha5) hal
        have nDal : D ≠ al := ne_of_none (show upd H5 E0 _ D = some _ by rw [upd_ne nDE]; exact hD5) hal
        have npal : p ≠ al := ne_of_none (show upd H5 E0 _ p = some _ by rw [upd_ne npE]; exact hp5) hal
        have hal0 : H al = none := hkE.free hal (by simpa using naal.symm)
        have naD : D ≠ a := by
          rintro rfl
          rw [ha5] at hD5
          cases hD5
        have nap : p ≠ a := by
          rintro rfl
          rw [ha5] at hp5
          cases hp5
        obtain ⟨ac, hac⟩ : ∃ ac : Tx0, (pcs bl).filter (fun t => decide (t.length = 1)) = ac.map fun c => [c] := ones_of _
        refine ⟨_, rfl, a, CB, dx, _, rfl, by rw [upd_ne naal, upd_ne naE]; exact ha5, T.cl_Book, T.no_Book_own_alphabet, by simp, al, ac, rfl, (hkE.up (.inl hal0)).up (.inr (by simp)), upd_same, ?_, ?_, ?_, ?_, ?_⟩
        · rw [upd_ne naD, upd_ne nDal, upd_ne nDE]
          exact hD5
        · rw [upd_ne nap, upd_ne npal, upd_ne npE]
          exact hp5
        · rw [upd_ne naal.symm, upd_same, hac, List.map_map]
          rfl
        · intro c
          have h4 : c ∈ ac ↔ [c] ∈ ac.map fun c => [c] := by simp
          rw [h4, ← hac, List.mem_filter]
          exact ⟨fun h => h.1, fun h => ⟨h, rfl⟩⟩
        · have h5 := congrArg List.length hac
          have h6 := List.length_filter_le (fun t : Tx0 => decide (t.length = 1)) (pcs bl)
          rw [List.length_map] at h5 h6
          omega
    rintro σ' H6 ⟨al, ac, rfl, hk6, ha6, hD6, hp6, hal6, hac, hacl⟩
    have naD : D ≠ a := by
      rintro rfl
      rw [ha6] at hD6
      cases hD6
    have nap : p ≠ a := by
      rintro rfl
      rw [ha6] at hp6
      cases hp6
    have naal : al ≠ a := by
      rintro rfl
      rw [ha6] at hal6
      cases hal6
    -- own_longest
    refine ⟨fun σ' H' => ∃ (lg : Nat), σ' = [some (.ref a), some (.ref d), x] ∧ Kp [a] H H' ∧ H' a = some (.ins CB dx [("own_prices", .ref D), ("own_pieces", .ref p), ("own_alphabet", .ref al), ("own_longest", .int lg)]) ∧ H' D = some (.dK (dB bl)) ∧ H' p = some (.tup ((pcs bl).map tv)) ∧ H' al = some (.tup (ac.map sg)) ∧ (∀ t ∈ pcs bl, t.length ≤ lg) ∧ lg ≤ 5 ∧ 1 ≤ lg ∧ (∃ t ∈ pcs bl, t.length = lg), ?_, ?_⟩
    · refine ⟨_, rfl, a, CB, dx, _, _, rfl, ha6, T.cl_Book, T.no_Book_own_pieces, rfl, p, rfl, ⟨_, SqT.of hp6⟩, fun E0 hE => ?_⟩
      have naE := ne_of_none ha6 hE
      have nDE := ne_of_none hD6 hE
      have npE := ne_of_none hp6 hE
      have nalE := ne_of_none hal6 hE
      have hE0 : H E0 = none := hk6.free hE (by simpa using naE.symm)
      refine comp_tup (pcs bl) tv (fun _ => true) (fun t => .int (t.length : Int)) (fun acc => SqT.of (by rw [upd_ne npE]; exact hp6)) (by rw [List.length_map]; omega) ?_ ?_
      · intro t ht acc Nx hz h1 h2
        have := (pcs_len gl ht).2
        refine ⟨rfl, _, rfl, _, rfl, by omega, acc, upd_same, hz, by rw [upd_upd]; exact h1 rfl⟩
      · refine ⟨E0, (pcs bl).map fun t => (t.length : Int), rfl, SqL.of ?_, ?_, fun m hm hmax => ?_⟩
        · rw [upd_same, List.filter_eq_self.mpr fun _ _ => rfl]
          simp only [List.map_map]
          rfl
        · rw [List.length_map, List.length_map]
          exact gl.ne
        obtain ⟨t, ht, rfl⟩ := List.mem_map.mp hm
        have htl := pcs_len gl ht
        refine ⟨_, rfl, a, CB, dx, _, rfl, by rw [upd_ne naE]; exact ha6, T.cl_Book, T.no_Book_own_longest, by simp, t.length, rfl, (hk6.up (.inl hE0)).up (.inr (by simp)), upd_same, ?_, ?_, ?_, ?_, htl.2, htl.1, t, ht, rfl⟩
        · rw [upd_ne naD, upd_ne nDE]
          exact hD6
        · rw [upd_ne nap, upd_ne npE]
          exact hp6
        · rw [upd_ne naal, upd_ne nalE]
          exact hal6
        · intro u hu
          have := hmax _ (List.mem_map_of_mem (f := fun t : Tx0 => (t.length : Int)) hu)
          omega
    rintro σ' H7 ⟨lg, rfl, hk7, ha7, hD7, hp7, hal7, hlg, hlg5, hlg1, hlgm⟩
    -- own_dearest
    refine ⟨_, rfl, a, CB, dx, _, _, rfl, ha7, T.cl_Book, T.no_Book_own_prices, rfl, D, dB bl, rfl, hD7, fun q hq => ?_⟩
    have naq := ne_of_none ha7 hq
    have nDq := ne_of_none hD7 hq
    have npq := ne_of_none hp7 hq
    have nalq := ne_of_none hal7 hq
    have hq0 : H q = none := hk7.free hq (by simpa using naq.symm)
    refine ⟨q, bl.map (·.2), rfl, SqL.of ?_, ?_, fun m hm hmax => ?_⟩
    · rw [upd_same]
      simp only [dB, dV, List.map_map]
      rfl
    · rw [List.length_map]
      exact gl.ne
    refine ⟨_, rfl, a, CB, dx, _, rfl, by rw [upd_ne naq]; exact ha7, T.cl_Book, T.no_Book_own_dearest, by simp, ?_⟩
    refine k bl _ hbl ⟨dx, D, p, al, ac, lg, m, upd_same, ?_, ?_, ?_, hac, hacl, hlg, hlg5, hlg1, hlgm, gl, hsr⟩ ((hk7.up (.inl hq0)).up (.inr (by simp)))
    · rw [upd_ne naD, upd_ne nDq]
      exact hD7
    · rw [upd_ne nap, upd_ne npq]
      exact hp7
    · rw [upd_ne naal, upd_ne nalq]
      exact hal7
end
end K75
-- part P6
set_option Elab.async false
set_option linter.all false
set_option maxRecDepth 100000
set_option maxHeartbeats 4000000
namespace K75
open PySem PySem.Spec PyProof.Rows L2
abbrev dTx (ts : List Tx0) : List PyData := ts.map fun t => .str (SX.S t)
theorem texts_dp {K : PySem.W.Frag} {H : Hp} : ∀ ts : List Tx0, DpAll K H (ts.map tv) (dTx ts)
  | [] => .nil
  | t :: ts => .cons (.str _) (texts_dp ts)
theorem texts_lay : ∀ ts : List Tx0, (∀ t ∈ ts, Lt t) → PyData.canLayAll0 (dTx ts) = true ∧ PyData.depthAll (dTx ts) ≤ 1
  | [], _ => ⟨by simp only [dTx, List.map_nil, PyData.canLayAll0], by simp [dTx, PyData.depthAll]⟩
  | t :: ts, h => by
    obtain ⟨a, b⟩ := texts_lay ts fun u hu => h u (List.mem_cons_of_mem _ hu)
    refine ⟨?_, ?_⟩
    · show PyData.canLayAll0 (.str (SX.S t) :: dTx ts) = true
      simp only [PyData.canLayAll0, PyData.canLay0, lt_ok (h t (List.mem_cons_self ..)), Bool.true_and]
      exact a
    · show PyData.depthAll (.str (SX.S t) :: dTx ts) ≤ 1
      simp only [PyData.depthAll, PyData.depth]
      omega
theorem eqv_same {d : PyData} (h : d.canLay0 = true) : PyData.eqv d d = true := PySem.SeqAt.eqv_refl d h
theorem lay_list {ts : List Tx0} (h : ∀ t ∈ ts, Lt t) : (PyData.list (dTx ts)).canLay0 = true := by simp only [PyData.canLay0, (texts_lay ts h).1]
theorem shp_list {ts : List Tx0} (h : ∀ t ∈ ts, Lt t) : SeqAt.shaped (.list (dTx ts)) = true := shaped_list (texts_lay ts h).1 (by have := (texts_lay ts h).2; omega)
section
variable {P : Program} {w : World} {K : PySem.W.Frag} {mg : Str → Option Value} {base : Heap} {CB CC CF : Addr}
def sp_is_order (CB : Addr) : Sp := fun vs H Q _ => ∃ (a o : Addr) (bk : Bk) (od : List Tx0), vs = [.ref a, .ref o] ∧ BookH CB H a bk ∧ H o = some (.tup (od.map tv)) ∧ od.Perm (pcs bk) ∧ ∀ H', Kp [] H H' → Q (.bl true) H'
theorem c_p_is_order (T : Ty K mg CB CC CF) : C8.Cal P w K mg base 1 "is_order" (sp_is_order CB) [] := by
  refine cal_of T.d_p_is_order sc_p_is_order (fun _ _ _ _ _ _ us hl => match us, hl with | [_, _], _ => rfl) (fun vs H Q E h => ?_) (fun cdv A outer f s H vs Q E hr h => ?_)
  · obtain ⟨a, o, bk, od, rfl, _⟩ := h
    rfl
  · obtain ⟨a, o, bk, od, rfl, ⟨dx, d, p, al, ac, lg, de, b⟩, ho, hp, q⟩ := h
    have h3 : sizeLine = 16777216 := sizeLine_eq
    have g := b.g
    have h12 := g.le
    have hol := hp.length_eq
    rw [List.length_map] at hol
    refine ⟨_, (pss_cons (ps_if (PW.pt (pw_or (pt_not (pt_val (pe_callB (cr_isi (K := K) rfl) (by rfl) T.n_isinstance (by decide +kernel) (pa_cons (pv 1) (pa_cons (pe_bltn (v := .ty "tuple") (u := .type "tuple") (by rfl) T.n_tuple (by decide +kernel) rfl) pa_nil))))) (pw_or1 (pt_not (pt_val (pe_callB (cr_all rfl) (by rfl) T.n_all (by decide +kernel) (pa_cons (pe_lc (own := [("piece", 2)]) (g := gName 2) rfl sc_p_is_order.nd (pi_tup (pv 1)) (blkOk_by (own := [("piece", 2)]) (N := N_p_is_order) (sc := (defScope s_p_is_order)) (by decide +kernel)) (fun _ _ _ _ _ => (pg_name (i := 2) sc_p_is_order.nd rfl (Or.inl rfl))) (fun _ _ _ _ _ => pts_nil) (fun _ _ _ _ _ => (pe_callB (cr_isi (K := K) rfl) (by rfl) T.n_isinstance (by decide +kernel) (pa_cons (pv 2) (pa_cons (pe_bltn (v := .ty "str") (u := .type "str") (by rfl) T.n_str (by decide +kernel) rfl) pa_nil))))) pa_nil)))))))
    (pss_one (ps_ret pe_bl))
    pss_nil)
  (pss_one (ps_ret (pe_cmpR (op_eqD hr.units) (pe_callB cr_sortedTS (by rfl) T.n_sorted (by decide +kernel) (pa_cons (pv 1) pa_nil)) (pe_callTy call_list_of (by rfl) T.n_list (by decide +kernel) (pa_cons (pe_fldK (K := K) rfl (pv 0)) pa_nil)) (nomark _))))), ?_⟩
    refine ⟨_, rfl, _, _, _, _, true, rfl, .ty _, .base (.tup ho), kit_ty (by decide +kernel), _, rfl, ?_⟩
    refine ⟨_, rfl, o, rfl, ⟨_, SqT.of ho⟩, fun D hD => ?_⟩
    have noD := ne_of_none ho hD
    refine comp_tup od tv (fun _ => true) (fun _ => .bl true) (fun acc => SqT.of (by rw [upd_ne noD]; exact ho)) (by omega) ?_ ?_
    · intro t ht acc Nx hz h1 h2
      exact ⟨rfl, _, rfl, _, _, _, _, true, rfl, .ty _, .base (.str _), kit_ty (by decide +kernel), acc, upd_same, hz, by rw [upd_upd]; exact h1 rfl⟩
    · have hk1 : Kp [] H (upd H D (.lst ((od.filter fun _ => true).map fun _ => V.bl true))) := (kp_refl H).up (.inl hD)
      refine ⟨D, List.replicate od.length true, rfl, SqL.of ?_, _, rfl, ?_⟩
      · rw [upd_same, List.filter_eq_self.mpr fun _ _ => rfl, List.map_replicate, List.map_const']
      rw [all_true]
      generalize upd H D (.lst ((od.filter fun _ => true).map fun _ => V.bl true)) = H1 at hk1
      have b1 := b.kp0 hk1
      have ho1 := hk1 _ _ ho (by simp)
      refine ⟨_, rfl, o, od.map SX.S, rfl, SqT.of (by rw [ho1]; simp only [List.map_map]; rfl), by rw [List.length_map]; omega, fun ys r hys hso hr1 => ?_⟩
      obtain ⟨ls, rfl, hls, hsr⟩ := perm_S hys hso
      have els : ls = pcs bk := srt_eq hsr b.so (hls.trans hp)
      subst els
      have hk2 : Kp [] H (upd H1 r (.lst (((pcs bk).map SX.S).map V.str))) := hk1.up (.inl (hk1.free hr1 (by simp)))
      have b2 := b.kp0 hk2
      refine ⟨_, rfl, _, _, _, _, _, rfl, b2.ha, T.cl_Book, T.no_Book_own_pieces, rfl, p, _, rfl, .inr (SqT.of b2.hp), fun l hl => ?_⟩
      have nrl : r ≠ l := ne_of_none upd_same hl
      have hlt : ∀ t ∈ pcs bk, Lt t := fun t ht => ov_lt g (pcs_ov g ht)
      refine ⟨.list (dTx (pcs bk)), .list (dTx (pcs bk)), .lst (SqL.of ?_) (texts_dp _), .lst (SqL.of upd_same) (texts_dp _), shp_list hlt, shp_list hlt, ?_⟩
      · rw [upd_ne nrl, upd_same, List.map_map]
        rfl
      · show Q (.bl _) _
        rw [eqv_same (lay_list hlt)]
        exact q _ (hk2.up (.inl (hk2.free hl (by simp))))
end
end K75
-- part P7
set_option Elab.async false
set_option linter.all false
set_option maxRecDepth 100000
set_option maxHeartbeats 4000000
namespace K75
open PySem PySem.Spec PyProof.Rows L2
theorem getA_perm {β : Type} {m m' : List (Tx0 × β)} (h : m.Perm m') (nd : (m'.map (·.1)).Nodup) (k : Tx0) : getA m k = getA m' k := by
  have nd2 : (m.map (·.1)).Nodup := (h.map _).nodup_iff.mpr nd
  cases e : getA m' k with
  | none =>
    rw [getA_none] at e ⊢
    exact fun z => e ((h.map _).mem_iff.mp z)
  | some v => exact getA_mem nd2 (h.mem_iff.mpr (getA_some e))
theorem BookAt.kpd {CB : Addr} {H H' : Hp} {a dx d0 p al d : Addr} {bk : Bk} {ac : Tx0} {lg : Nat} {de : Int} {m : Tb} (b : BookAt CB H a bk dx d0 p al ac lg de) (k : Kp [d] H H') (hd : H d = some (.dK (dV tv m))) : BookAt CB H' a bk dx d0 p al ac lg de := by
  refine ⟨k _ _ b.ha fun z => ?_, k _ _ b.hd fun z => ?_, k _ _ b.hp fun z => ?_, k _ _ b.hl fun z => ?_, b.hac, b.hal, b.hlg, b.hlg5, b.hlg1, b.hlgm, b.g, b.so⟩
  · have := b.ha
    rw [List.mem_singleton.mp z, hd] at this
    cases this
  · have h1 := b.hd
    rw [List.mem_singleton.mp z, hd] at h1
    injection h1 with h1
    injection h1 with h1
    have h2 := b.g.ne
    cases e : bk with
    | nil => rw [e] at h2; cases h2
    | cons p bk =>
      rw [e] at h1
      cases m with
      | nil => cases h1
      | cons q m =>
        injection h1 with h1 _
        injection h1 with _ h1
        cases h1
  · have := b.hp
    rw [List.mem_singleton.mp z, hd] at this
    cases this
  · have := b.hl
    rw [List.mem_singleton.mp z, hd] at this
    cases this
section
variable {P : Program} {w : World} {K : PySem.W.Frag} {mg : Str → Option Value} {base : Heap} {CB CC CF : Addr}
def sp_is_table (CB : Addr) : Sp := fun vs H Q _ => ∃ (a d : Addr) (bk : Bk) (n : Nat) (m : Tb), vs = [.ref a, .ref d, .int n] ∧ BookH CB H a bk ∧ H d = some (.dK (dV tv m)) ∧ GoodTb bk n m ∧ n ≤ 2000 ∧ ∀ H', Kp [] H H' → Q (.bl true) H'
theorem c_p_is_table (T : Ty K mg CB CC CF) : C8.Cal P w K mg base 5 "is_table" (sp_is_table CB) [] := by
  refine cal_of T.d_p_is_table sc_p_is_table (fun _ _ _ _ _ _ us hl => match us, hl with | [_, _, _], _ => rfl) (fun vs H Q E h => ?_) (fun cdv A outer f s H vs Q E hr h => ?_)
  · obtain ⟨a, d, bk, n, m, rfl, _⟩ := h
    rfl
  · obtain ⟨a, d, bk, n, m, rfl, ⟨dx, d0, p0, al, ac, lg, de, b⟩, hd, gt, hn, q⟩ := h
    have h3 : sizeLine = 16777216 := sizeLine_eq
    have g := b.g
    have hml := gt.le
    refine ⟨_, (pss_cons (ps_if (PW.pt (pw_or (pt_not (pt_val (pe_callB (cr_isi (K := K) rfl) (by rfl) T.n_isinstance (by decide +kernel) (pa_cons (pv 1) (pa_cons (pe_bltn (v := .ty "dict") (u := .type "dict") (by rfl) T.n_dict (by decide +kernel) rfl) pa_nil))))) (pw_or1 (pt_cmpR op_gt (pe_callB call_lenD (by rfl) T.n_len (by decide +kernel) (pa_cons (pv 1) pa_nil)) (C8.pe_gc (v := .int 2000) (by rfl) (gi T.g_MAX_WINDOWS)) (nomark _)))))
    (pss_one (ps_ret pe_bl))
    pss_nil)
  (pss_cons (ps_lock (ps_for PassesOwn.never rfl (pi_items (pv 1)) (pg_tupK (K := K) (n := 2) rfl (by rfl) (pgs_cons (pg_name (i := 3) sc_p_is_table.nd rfl (Or.inl rfl)) (pgs_cons (pg_name (i := 4) sc_p_is_table.nd rfl (Or.inl rfl)) pgs_nil)))
    (pss_cons (ps_if (PW.pt (pw_or (pt_not (pt_val (C8.pe_mt (c_Book_accepts T) hr (by decide) (pv 0) (pa_cons (pv 3) pa_nil)))) (pw_or1 (pt_not (pt_chain op_le op_le pe_int (pe_callB call_lenT (by rfl) T.n_len (by decide +kernel) (pa_cons (pv 3) pa_nil)) (pv 2))))))
      (pss_one (ps_ret pe_bl))
      pss_nil)
    (pss_one (ps_if (PW.pt (pw_or (pt_not (pt_val (pe_callB (cr_isi (K := K) rfl) (by rfl) T.n_isinstance (by decide +kernel) (pa_cons (pv 4) (pa_cons (pe_bltn (v := .ty "str") (u := .type "str") (by rfl) T.n_str (by decide +kernel) rfl) pa_nil))))) (pw_or (pt_cmp (pc_dnotin (hu1 hr) (pv 4) (pe_fldK (K := K) rfl (pv 0)))) (pw_or1 (pt_not (pt_val (pe_m1 PySem.F.slot_str_startswith PySem.F.type_str_startswith mt_startswith (pv 3) (pv 4))))))))
      (pss_one (ps_ret pe_bl))
      pss_nil)))))
  (pss_one (ps_ret pe_bl)))), ?_⟩
    refine ⟨_, rfl, _, _, _, _, true, rfl, .ty _, .base (.dK hd), kit_ty (by decide +kernel), _, rfl, ?_⟩
    refine ⟨_, rfl, _, _, rfl, hd, _, _, rfl, rfl, _, rfl, iteF' (decide_eq_false (by rw [dV_length]; omega)) ?_⟩
    refine ⟨d, _, hd, trivial, fun od => ⟨_, rfl, d, od, dV tv m, rfl, upd_same, ?_⟩⟩
    refine for_it (walk_items (d := d) (o := od) (kvs := dV tv m)) (fun i σ' H' => ∃ x y : Option V, σ' = [some (.ref a), some (.ref d), some (.int (n : Int)), x, y] ∧ Kp [d] H H' ∧ H' d = some (.frz od (.dK (dV tv m)))) ⟨none, none, rfl, (kp_refl H).up (.inr (by simp)), upd_same⟩ (fun i σ H' _ ⟨_, _, _, _, h⟩ => h) ?_ ?_
    · rintro i x σ H1 H2 hi ⟨x3, x4, rfl, hk, hd1⟩ ⟨T1, y, z, rfl, hT, rfl, e1, e2⟩
      rw [dV_length] at hi
      have hpm : m[i] ∈ m := List.getElem_mem hi
      have e3 : y = tv m[i].1 := by
        simp only [dV, List.getElem?_map, List.getElem?_eq_getElem hi, Option.map_some, Option.some.injEq] at e1
        exact e1.symm
      have e4 : z = tv m[i].2 := by
        simp only [dV, List.getElem?_map, List.getElem?_eq_getElem hi, Option.map_some, Option.some.injEq] at e2
        exact e2.symm
      subst e3
      subst e4
      have hT0 : H T1 = none := by
        refine hk.free hT ?_
        rintro h
        rw [List.mem_singleton.mp h, hd1] at hT
        cases hT
      refine ⟨T1, _, rfl, SqT.of upd_same, rfl, _, _, rfl, _, _, rfl, rfl, ?_⟩
      have hlen := gt.ln _ hpm
      have hk2 : Kp [d] H (upd H1 T1 (.tup [tv m[i].1, tv m[i].2])) := hk.up (.inl hT0)
      have hd2 : upd H1 T1 (.tup [tv m[i].1, tv m[i].2]) d = some (.frz od (.dK (dV tv m))) := by
        rw [upd_ne (ne_of_none hd1 hT)]
        exact hd1
      generalize upd H1 T1 (.tup [tv m[i].1, tv m[i].2]) = H2 at hk2 hd2
      have b2 := b.kpd hk2 hd
      refine ⟨_, rfl, a, dx, _, rfl, b2.ha, rfl, _, rfl, a, bk, m[i].1, rfl, ⟨dx, d0, p0, al, ac, lg, de, b2⟩, gt.ov _ hpm, by omega, fun H3 hk3 => ⟨_, rfl, ?_⟩⟩
      have b3 := b2.kp0 hk3
      have hd3 := hk3 _ _ hd2 (by simp)
      have hin : m[i].2 ∈ pcs bk := gt.pc _ hpm
      have hg : (!(Option.map V.int (getA bk m[i].2)).isSome) = false := by rw [Option.isSome_map, getA_isSome, decide_eq_true hin]; rfl
      refine ⟨_, rfl, _, rfl, by omega, _, _, rfl, rfl, _, rfl, iteT' (decide_eq_true (by omega)) ⟨_, rfl, _, _, rfl, rfl, _, rfl, ?_⟩⟩
      rw [decide_eq_true (show ((m[i].1.length : Nat) : Int) ≤ (n : Int) by omega)]
      refine ⟨_, rfl, _, _, _, _, true, rfl, .ty _, .base (.str _), kit_ty (by decide +kernel), _, rfl, ?_⟩
      refine ⟨_, rfl, _, rfl, _, _, _, _, _, rfl, b3.ha, T.cl_Book, T.no_Book_own_prices, rfl, _, _, rfl, dget_A b3.hd _, _, rfl, iteF' hg ?_⟩
      refine ⟨_, rfl, ⟨_, rfl⟩, _, rfl, _, _, rfl, rfl, _, rfl, ?_⟩
      rw [starts_S, gt.bg _ hpm]
      exact ⟨_, _, rfl, hk2.trans (hk3.any [d]), hd3⟩
    · rintro σ H1 ⟨x3, x4, rfl, hk, hd1⟩
      exact ⟨hd1, q _ (kp_unlock hd hk)⟩
end
end K75
-- part P8
set_option Elab.async false
set_option linter.all false
set_option maxRecDepth 100000
set_option maxHeartbeats 4000000
namespace K75
open PySem PySem.Spec PyProof.Rows L2
/-! ### a cutter -/
def CutO (CC dx ab o tb en sz : Addr) (n : Nat) : HO := .ins CC dx [("own_book", .ref ab), ("own_order", .ref o), ("own_view", .int n), ("own_table", .ref tb), ("own_ends", .ref en), ("own_sizes", .ref sz)]
structure CutAt (CB CC : Addr) (H : Hp) (a : Addr) (bk : Bk) (pl : Pl) (dx ab o tb en sz : Addr) (rw la : Tb) (ns : List Int) : Prop where
  ha : H a = some (CutO CC dx ab o tb en sz pl.span)
  hb : BookH CB H ab bk
  ho : H o = some (.tup (pl.order.map tv))
  ht : H tb = some (.dK (dV tv rw))
  he : H en = some (.dK (dV tv la))
  hz : H sz = some (.tup (ns.map V.int))
  hpr : rw.Perm pl.rows
  hpl : la.Perm pl.last
  up : ns.Pairwise (· < ·)
  mem : ∀ k : Int, k ∈ ns ↔ ∃ p ∈ pl.rows, k = p.1.length
  len : ns.length ≤ 3
  gp : GoodPl bk pl
def CutH (CB CC : Addr) (H : Hp) (a : Addr) (bk : Bk) (pl : Pl) : Prop := ∃ dx ab o tb en sz rw la ns, CutAt CB CC H a bk pl dx ab o tb en sz rw la ns
section
variable {CB CC CF : Addr} {H H' : Hp} {a : Addr} {bk : Bk} {pl : Pl} {D : List Addr} {dx ab o tb en sz : Addr} {rw la : Tb} {ns : List Int}
theorem CutAt.kp (h : CutAt CB CC H a bk pl dx ab o tb en sz rw la ns) (k : Kp D H H') (v : VolAt CF H D) (n : CB ≠ CF) (n2 : CC ≠ CF) : CutAt CB CC H' a bk pl dx ab o tb en sz rw la ns :=
  ⟨k.vol v h.ha (nv_ins n2), h.hb.kp k v n, k.vol v h.ho nv_tup, k.vol v h.ht nv_dK, k.vol v h.he nv_dK, k.vol v h.hz nv_tup, h.hpr, h.hpl, h.up, h.mem, h.len, h.gp⟩
theorem CutH.kp (h : CutH CB CC H a bk pl) (k : Kp D H H') (v : VolAt CF H D) (n : CB ≠ CF) (n2 : CC ≠ CF) : CutH CB CC H' a bk pl := by
  obtain ⟨dx, ab, o, tb, en, sz, rw, la, ns, h⟩ := h
  exact ⟨dx, ab, o, tb, en, sz, rw, la, ns, h.kp k v n n2⟩
theorem CutAt.kp0 (h : CutAt CB CC H a bk pl dx ab o tb en sz rw la ns) (k : Kp [] H H') : CutAt CB CC H' a bk pl dx ab o tb en sz rw la ns :=
  ⟨k _ _ h.ha (by simp), h.hb.kp0 k, k _ _ h.ho (by simp), k _ _ h.ht (by simp), k _ _ h.he (by simp), k _ _ h.hz (by simp), h.hpr, h.hpl, h.up, h.mem, h.len, h.gp⟩
theorem CutH.kp0 (h : CutH CB CC H a bk pl) (k : Kp [] H H') : CutH CB CC H' a bk pl := by
  obtain ⟨dx, ab, o, tb, en, sz, rw, la, ns, h⟩ := h
  exact ⟨dx, ab, o, tb, en, sz, rw, la, ns, h.kp0 k⟩
end
theorem tb_dict {m ls : List (Tx0 × Tx0)} {ks : List Tx0} (nd : (m.map (·.1)).Nodup) (hp : ks.Perm (m.map (·.1))) : (ks.map fun t => (t, (getA m t).getD [])).Perm m := by
  have h5 := hp.map fun t => (t, (getA m t).getD [])
  have e : (m.map (·.1)).map (fun t => (t, (getA m t).getD [])) = m := by
    rw [List.map_map]
    conv => rhs; rw [← List.map_id m]
    refine List.map_congr_left fun p hp => ?_
    have hg := getA_mem nd (show (p.1, p.2) ∈ m from hp)
    show (p.1, (getA m p.1).getD []) = id p
    rw [hg]
    rfl
  rw [e] at h5
  exact h5
/-- the view, the table, the ends as they are given -/
def GivV (bk : Bk) (v : V) (n : Nat) : Prop := v = .int n ∨ v = .non ∧ (∀ t ∈ pcs bk, t.length ≤ n) ∧ ∃ t ∈ pcs bk, t.length = n
def GivT (H : Hp) (v : V) (m : Tb) : Prop := (∃ d, v = .ref d ∧ H d = some (.dK (dV tv m))) ∨ v = .non ∧ m = []
theorem GivT.kp {H H' : Hp} {v : V} {m : Tb} (h : GivT H v m) (k : Kp [] H H') : GivT H' v m := by
  rcases h with ⟨d, e, h⟩ | h
  · exact .inl ⟨d, e, k _ _ h (by simp)⟩
  · exact .inr h
theorem srtS {l : List Str} {m : List Tx0} (h : l = m.map SX.S) (s : sortedS l = true) : Srt m := by unfold Srt; rw [← h]; exact s
section
variable {P : Program} {w : World} {K : PySem.W.Frag} {mg : Str → Option Value} {base : Heap} {CB CC CF : Addr}
def sp_Cutter (CB CC : Addr) : Sp := fun vs H Q _ => ∃ (a dx b o : Addr) (vv vt ve : V) (bk : Bk) (pl : Pl), vs = [.ref a, .ref b, .ref o, vv, vt, ve] ∧ H a = some (.ins CC dx []) ∧ BookH CB H b bk ∧ H o = some (.tup (pl.order.map tv)) ∧ GoodPl bk pl ∧
  GivV bk vv pl.span ∧ GivT H vt pl.rows ∧ GivT H ve pl.last ∧ ∀ H', CutH CB CC H' a bk pl → Kp [a] H H' → Q .non H'
theorem b_Cutter (T : Ty K mg CB CC CF) : BodyOk P w K mg base "Cutter.__init__" s_p_Cutter___init__ N_p_Cutter___init__ 5 (sp_Cutter CB CC) := by
  intro cdv A outer f s H vs Q E hr h
  obtain ⟨a, dx, b, o, vv, vt, ve, bk, pl, rfl, ha, hb, ho, gp, gv, g1, g2, k⟩ := h
  have h3 : sizeLine = 16777216 := sizeLine_eq
  refine ⟨_, (pss_cons (ps_expr (C8.pe_c (c_p_require_book T) hr (by decide) (by rfl) (pa_cons (pv 1) pa_nil)))
  (C8.pss_cut (ps_set (i := 3) sc_p_Cutter___init__.nd rfl (Or.inl rfl) (pe_ifExp (pt_cmpR op_isN (pv 3) pe_non (nomark _)) (pe_fldK (K := K) rfl (pv 1)) (pv 3)))
  (C8.pss_cut (ps_set (i := 4) sc_p_Cutter___init__.nd rfl (Or.inr rfl) (pe_ifExp (pt_cmpR op_isN (pv 4) pe_non (nomark _)) pe_dnewK (pv 4)))
  (C8.pss_cut (ps_set (i := 5) sc_p_Cutter___init__.nd rfl (Or.inr rfl) (pe_ifExp (pt_cmpR op_isN (pv 5) pe_non (nomark _)) pe_dnewK (pv 5)))
  (C8.pss_cut (ps_if (PW.pt (pw_or (pt_not (pt_val (C8.pe_c (c_p_is_order T) hr (by decide) (by rfl) (pa_cons (pv 1) (pa_cons (pv 2) pa_nil))))) (pw_or1 (pt_not (pt_val (C8.pe_c (c_p_is_view T) hr (by decide) (by rfl) (pa_cons (pv 3) pa_nil)))))))
    (pss_one ps_never)
    pss_nil)
  (C8.pss_cut (ps_if (PW.pt (pw_or (pt_not (pt_val (C8.pe_c (c_p_is_table T) hr (by decide) (by rfl) (pa_cons (pv 1) (pa_cons (pv 4) (pa_cons (pv 3) pa_nil)))))) (pw_or1 (pt_not (pt_val (C8.pe_c (c_p_is_table T) hr (by decide) (by rfl) (pa_cons (pv 1) (pa_cons (pv 5) (pa_cons (pe_op op_sub (pv 3) pe_int) pa_nil)))))))))
    (pss_one ps_never)
    pss_nil)
  (C8.pss_cut (ps_fld (pv 0) (pv 1) rfl)
  (C8.pss_cut (ps_fld (pv 0) (pv 2) rfl)
  (C8.pss_cut (ps_fld (pv 0) (pv 3) rfl)
  (C8.pss_cut (ps_fld (pv 0) (pe_dc (own := [("text", 6)]) (g := gName 6) rfl sc_p_Cutter___init__.nd (pi_list (pe_callB (call_sortedD rfl) (by rfl) T.n_sorted (by decide +kernel) (pa_cons (pv 4) pa_nil))) (blkOk_by (own := [("text", 6)]) (N := N_p_Cutter___init__) (sc := (defScope s_p_Cutter___init__)) (by decide +kernel)) (fun _ _ _ _ _ => (pg_name (i := 6) sc_p_Cutter___init__.nd rfl (Or.inl rfl))) (fun _ _ _ _ _ => pts_nil) (fun _ _ _ _ _ => (pv 6)) (fun _ _ _ _ _ => (pe_dget (hu1 hr) (pv 4) (pv 6) (fun _ _ => rfl)))) rfl)
  (C8.pss_cut (ps_fld (pv 0) (pe_dc (own := [("text", 6)]) (g := gName 6) rfl sc_p_Cutter___init__.nd (pi_list (pe_callB (call_sortedD rfl) (by rfl) T.n_sorted (by decide +kernel) (pa_cons (pv 5) pa_nil))) (blkOk_by (own := [("text", 6)]) (N := N_p_Cutter___init__) (sc := (defScope s_p_Cutter___init__)) (by decide +kernel)) (fun _ _ _ _ _ => (pg_name (i := 6) sc_p_Cutter___init__.nd rfl (Or.inl rfl))) (fun _ _ _ _ _ => pts_nil) (fun _ _ _ _ _ => (pv 6)) (fun _ _ _ _ _ => (pe_dget (hu1 hr) (pv 5) (pv 6) (fun _ _ => rfl)))) rfl)
  (pss_one (ps_fld (pv 0) (pe_callTy call_tuple_of (by rfl) T.n_tuple (by decide +kernel) (pa_cons (pe_callB (cr_sortedSet rfl) (by rfl) T.n_sorted (by decide +kernel) (pa_cons (pe_lock (pe_si (own := [("text", 6)]) (g := gName 6) rfl sc_p_Cutter___init__.nd (pi_keys (pv 4)) (blkOk_by (own := [("text", 6)]) (N := N_p_Cutter___init__) (sc := (defScope s_p_Cutter___init__)) (by decide +kernel)) (fun _ _ _ _ _ => (pg_name (i := 6) sc_p_Cutter___init__.nd rfl (Or.inl rfl))) (fun _ _ _ _ _ => pts_nil) (fun _ _ _ _ _ => (pe_callB call_lenT (by rfl) T.n_len (by decide +kernel) (pa_cons (pv 6) pa_nil))))) pa_nil)) pa_nil)) rfl))))))))))))), ?_⟩
  obtain ⟨dxb, d0, p0, al, ac, lg, de, b0⟩ := hb
  refine ⟨_, rfl, b, dxb, _, rfl, b0.ha, ?_⟩
  -- view
  refine ⟨fun σ' H' => σ' = [some (.ref a), some (.ref b), some (.ref o), some (.int pl.span), some vt, some ve, none] ∧ H = H', ?_, ?_⟩
  · rcases gv with rfl | ⟨rfl, v1, t0, ht0, et0⟩
    · exact ⟨_, rfl, rfl, _, rfl, iteF' rfl ⟨_, rfl, rfl, rfl⟩⟩
    · refine ⟨_, rfl, rfl, _, rfl, iteT' rfl ⟨_, rfl, _, _, _, _, _, rfl, b0.ha, T.cl_Book, T.no_Book_own_longest, rfl, ?_, rfl⟩⟩
      have e : lg = pl.span := by
        obtain ⟨t1, ht1, et1⟩ := b0.hlgm
        have h4 := b0.hlg t0 ht0
        have h5 := v1 t1 ht1
        omega
      rw [e]
      rfl
  rintro σ' H' ⟨rfl, rfl⟩
  -- table
  refine ⟨fun σ' H' => ∃ d, σ' = [some (.ref a), some (.ref b), some (.ref o), some (.int pl.span), some (.ref d), some ve, none] ∧ Kp [] H H' ∧ H' d = some (.dK (dV tv pl.rows)), ?_, ?_⟩
  · rcases g1 with ⟨d, rfl, hd⟩ | ⟨rfl, e⟩
    · exact ⟨_, rfl, rfl, _, rfl, iteF' rfl ⟨_, rfl, d, rfl, kp_refl H, hd⟩⟩
    · exact ⟨_, rfl, rfl, _, rfl, iteT' rfl fun d hd => ⟨d, rfl, (kp_refl H).up (.inl hd), by rw [upd_same, e]; rfl⟩⟩
  rintro σ' H1 ⟨dt, rfl, hk1, ht1⟩
  have g3 := g2.kp hk1
  -- ends
  refine ⟨fun σ' H' => ∃ d, σ' = [some (.ref a), some (.ref b), some (.ref o), some (.int pl.span), some (.ref dt), some (.ref d), none] ∧ Kp [] H H' ∧ H' dt = some (.dK (dV tv pl.rows)) ∧ H' d = some (.dK (dV tv pl.last)), ?_, ?_⟩
  · rcases g3 with ⟨d, rfl, hd⟩ | ⟨rfl, e⟩
    · exact ⟨_, rfl, rfl, _, rfl, iteF' rfl ⟨_, rfl, d, rfl, hk1, ht1, hd⟩⟩
    · exact ⟨_, rfl, rfl, _, rfl, iteT' rfl fun d hd => ⟨d, rfl, hk1.up (.inl (hk1.free hd (by simp))), by rw [upd_ne (ne_of_none ht1 hd)]; exact ht1, by rw [upd_same, e]; rfl⟩⟩
  rintro σ' H2 ⟨dl, rfl, hk2, ht2, hl2⟩
  have b2 := b0.kp0 hk2
  -- the tests
  refine ⟨fun σ' H' => σ' = [some (.ref a), some (.ref b), some (.ref o), some (.int pl.span), some (.ref dt), some (.ref dl), none] ∧ Kp [] H2 H', ?_, ?_⟩
  · refine ⟨_, rfl, _, rfl, b, o, bk, pl.order, rfl, ⟨_, _, _, _, _, _, _, b2⟩, hk2 _ _ ho (by simp), gp.od, fun H3 hk3 => ⟨_, rfl, ?_⟩⟩
    have hs1 := gp.s1
    have hs2 := gp.s2
    exact ⟨_, rfl, (pl.span : Int), rfl, by omega, by omega, _, rfl, rfl, hk3⟩
  rintro σ' H3 ⟨rfl, hk3⟩
  refine ⟨fun σ' H' => σ' = [some (.ref a), some (.ref b), some (.ref o), some (.int pl.span), some (.ref dt), some (.ref dl), none] ∧ Kp [] H2 H', ?_, ?_⟩
  · have b3 := b2.kp0 hk3
    refine ⟨_, rfl, _, rfl, _, rfl, b, dt, bk, pl.span, pl.rows, rfl, ⟨_, _, _, _, _, _, _, b3⟩, hk3 _ _ ht2 (by simp), gp.rw, gp.s2, fun H4 hk4 => ⟨_, rfl, ?_⟩⟩
    have hs1 := gp.s1
    have hs2 := gp.s2
    have b4 := b3.kp0 hk4
    refine ⟨_, rfl, _, rfl, _, rfl, _, _, rfl, rfl, b, dl, bk, pl.span - 1, pl.last, ?_, ⟨_, _, _, _, _, _, _, b4⟩, hk4 _ _ (hk3 _ _ hl2 (by simp)) (by simp), gp.la, by omega, fun H5 hk5 => ⟨_, rfl, rfl, (hk3.trans hk4).trans hk5⟩⟩
    show [V.ref b, .ref dl, .int ((pl.span : Int) - 1)] = _
    rw [show ((pl.span : Int) - 1) = ((pl.span - 1 : Nat) : Int) by omega]
  rintro σ' H4 ⟨rfl, hk4⟩
  have hk04 := hk2.trans hk4
  have b4 := b2.kp0 hk4
  have ha4 := hk04 _ _ ha (by simp)
  have ho4 := hk04 _ _ ho (by simp)
  have ht4 := hk4 _ _ ht2 (by simp)
  have hl4 := hk4 _ _ hl2 (by simp)
  have ndo : dt ≠ a := by
    rintro rfl
    rw [ha4] at ht4
    cases ht4
  have nlo : dl ≠ a := by
    rintro rfl
    rw [ha4] at hl4
    cases hl4
  have noo : o ≠ a := by
    rintro rfl
    rw [ha4] at ho4
    cases ho4
  -- what is kept from here on
  have keepB : ∀ Hx, Kp [a] H Hx → BookAt CB Hx b bk dxb d0 p0 al ac lg de := fun Hx kx => by
    refine ⟨kx _ _ b0.ha fun z => ?_, kx _ _ b0.hd fun z => ?_, kx _ _ b0.hp fun z => ?_, kx _ _ b0.hl fun z => ?_, b0.hac, b0.hal, b0.hlg, b0.hlg5, b0.hlg1, b0.hlgm, b0.g, b0.so⟩
    · have := b0.ha
      rw [List.mem_singleton.mp z, ha] at this
      injection this with this
      injection this with _ _ this
      cases this
    · have := b0.hd
      rw [List.mem_singleton.mp z, ha] at this
      cases this
    · have := b0.hp
      rw [List.mem_singleton.mp z, ha] at this
      cases this
    · have := b0.hl
      rw [List.mem_singleton.mp z, ha] at this
      cases this
  have hst : ∃ σ0 : L2.St, σ0 = [some (.ref a), some (.ref b), some (.ref o), some (.int pl.span), some (.ref dt), some (.ref dl), none] := ⟨_, rfl⟩
  obtain ⟨σ0, eσ⟩ := hst
  -- own_book
  refine ⟨fun σ' H' => σ' = [some (.ref a), some (.ref b), some (.ref o), some (.int pl.span), some (.ref dt), some (.ref dl), none] ∧ Kp [a] H H' ∧ H' a = some (.ins CC dx [("own_book", .ref b)]) ∧ H' o = some (.tup (pl.order.map tv)) ∧ H' dt = some (.dK (dV tv pl.rows)) ∧ H' dl = some (.dK (dV tv pl.last)), ?_, ?_⟩
  · refine ⟨_, rfl, _, rfl, a, CC, dx, _, rfl, ha4, T.cl_Cutter, T.no_Cutter_own_book, by simp, rfl, (hk04.any [a]).up (.inr (by simp)), upd_same, ?_, ?_, ?_⟩
    · rw [upd_ne noo]; exact ho4
    · rw [upd_ne ndo]; exact ht4
    · rw [upd_ne nlo]; exact hl4
  rintro σ' H5 ⟨rfl, hk5, ha5, ho5, ht5, hl5⟩
  refine ⟨fun σ' H' => σ' = [some (.ref a), some (.ref b), some (.ref o), some (.int pl.span), some (.ref dt), some (.ref dl), none] ∧ Kp [a] H H' ∧ H' a = some (.ins CC dx [("own_book", .ref b), ("own_order", .ref o)]) ∧ H' o = some (.tup (pl.order.map tv)) ∧ H' dt = some (.dK (dV tv pl.rows)) ∧ H' dl = some (.dK (dV tv pl.last)), ?_, ?_⟩
  · refine ⟨_, rfl, _, rfl, a, CC, dx, _, rfl, ha5, T.cl_Cutter, T.no_Cutter_own_order, by simp, rfl, hk5.up (.inr (by simp)), upd_same, ?_, ?_, ?_⟩
    · rw [upd_ne noo]; exact ho5
    · rw [upd_ne ndo]; exact ht5
    · rw [upd_ne nlo]; exact hl5
  rintro σ' H6 ⟨rfl, hk6, ha6, ho6, ht6, hl6⟩
  refine ⟨fun σ' H' => σ' = [some (.ref a), some (.ref b), some (.ref o), some (.int pl.span), some (.ref dt), some (.ref dl), none] ∧ Kp [a] H H' ∧ H' a = some (.ins CC dx [("own_book", .ref b), ("own_order", .ref o), ("own_view", .int pl.span)]) ∧ H' o = some (.tup (pl.order.map tv)) ∧ H' dt = some (.dK (dV tv pl.rows)) ∧ H' dl = some (.dK (dV tv pl.last)), ?_, ?_⟩
  · refine ⟨_, rfl, _, rfl, a, CC, dx, _, rfl, ha6, T.cl_Cutter, T.no_Cutter_own_view, by simp, rfl, hk6.up (.inr (by simp)), upd_same, ?_, ?_, ?_⟩
    · rw [upd_ne noo]; exact ho6
    · rw [upd_ne ndo]; exact ht6
    · rw [upd_ne nlo]; exact hl6
  rintro σ' H7 ⟨rfl, hk7, ha7, ho7, ht7, hl7⟩
  -- own_table
  refine ⟨fun σ' H' => ∃ (tb : Addr) (rw : Tb) (x : Option V), σ' = [some (.ref a), some (.ref b), some (.ref o), some (.int pl.span), some (.ref dt), some (.ref dl), x] ∧ Kp [a] H H' ∧ H' a = some (.ins CC dx [("own_book", .ref b), ("own_order", .ref o), ("own_view", .int pl.span), ("own_table", .ref tb)]) ∧ H' o = some (.tup (pl.order.map tv)) ∧ H' dt = some (.dK (dV tv pl.rows)) ∧ H' dl = some (.dK (dV tv pl.last)) ∧ H' tb = some (.dK (dV tv rw)) ∧ rw.Perm pl.rows, ?_, ?_⟩
  · have hml := gp.rw.le
    refine ⟨_, rfl, dt, dV tv pl.rows, (pl.rows.map (·.1)).map SX.S, rfl, .inl ht7, by simp only [dV, List.map_map]; rfl, by rw [List.length_map, List.length_map]; omega, fun ys q hys hso hq => ?_⟩
    obtain ⟨ls, rfl, hls, hsr⟩ := perm_S hys hso
    have naq := ne_of_none ha7 hq
    have noq := ne_of_none ho7 hq
    have ntq := ne_of_none ht7 hq
    have nlq := ne_of_none hl7 hq
    have hq0 : H q = none := hk7.free hq (by simpa using naq.symm)
    have hqq : upd H7 q (.lst ((ls.map SX.S).map V.str)) q = some (.lst (ls.map tv)) := by
      rw [upd_same, List.map_map]
      rfl
    refine ⟨q, rfl, ⟨_, SqL.of hqq⟩, fun D hD => ?_⟩
    have hkq : Kp [a] H (upd H7 q (.lst ((ls.map SX.S).map V.str))) := hk7.up (.inl hq0)
    have hqD := ne_of_none hqq hD
    have haD : a ≠ D := ne_of_none (show upd H7 q _ a = some _ by rw [upd_ne naq]; exact ha7) hD
    have hoD : o ≠ D := ne_of_none (show upd H7 q _ o = some _ by rw [upd_ne noq]; exact ho7) hD
    have htD : dt ≠ D := ne_of_none (show upd H7 q _ dt = some _ by rw [upd_ne ntq]; exact ht7) hD
    have hlD : dl ≠ D := ne_of_none (show upd H7 q _ dl = some _ by rw [upd_ne nlq]; exact hl7) hD
    have hD0 : H D = none := hkq.free hD (by simpa using haD.symm)
    have hlsl := hls.length_eq
    rw [List.length_map] at hlsl
    refine dc_texts (f := tv) ls (fun t => (getA pl.rows t).getD []) (hls.nodup_iff.mpr gp.rw.nd) (fun kvs => SqL.of (by rw [upd_ne hqD]; exact hqq)) (by omega) ?_ ?_
    · intro t ht kvs Nx hz nx
      obtain ⟨p, hp, ep⟩ := List.mem_map.mp (hls.mem_iff.mp ht)
      have hg := getA_mem gp.rw.nd (show (p.1, p.2) ∈ pl.rows from hp)
      rw [ep] at hg
      refine ⟨rfl, _, rfl, _, rfl, _, rfl, dt, tv p.2, rfl, ?_, kvs, kx t, rfl, upd_same, hz, ?_⟩
      · exact dget_S (f := tv) (by rw [upd_ne htD, upd_ne ntq]; exact ht7) hg
      · rw [upd_upd]
        rw [hg] at nx
        exact nx
    refine ⟨_, rfl, a, CC, dx, _, rfl, by rw [upd_ne haD, upd_ne naq]; exact ha7, T.cl_Cutter, T.no_Cutter_own_table, by simp, D, _, _, rfl, (hkq.up (.inl hD0)).up (.inr (by simp)), upd_same, ?_, ?_, ?_, ?_, tb_dict (ls := pl.rows) gp.rw.nd hls⟩
    · rw [upd_ne noo, upd_ne hoD, upd_ne noq]; exact ho7
    · rw [upd_ne ndo, upd_ne htD, upd_ne ntq]; exact ht7
    · rw [upd_ne nlo, upd_ne hlD, upd_ne nlq]; exact hl7
    · rw [upd_ne haD.symm, upd_same]
  rintro σ' H8 ⟨tb, rw8, x8, rfl, hk8, ha8, ho8, ht8, hl8, htb8, hpr⟩
  have nta : tb ≠ a := by
    rintro rfl
    rw [ha8] at htb8
    cases htb8
  -- own_ends
  refine ⟨fun σ' H' => ∃ (en : Addr) (la : Tb) (x : Option V), σ' = [some (.ref a), some (.ref b), some (.ref o), some (.int pl.span), some (.ref dt), some (.ref dl), x] ∧ Kp [a] H H' ∧ H' a = some (.ins CC dx [("own_book", .ref b), ("own_order", .ref o), ("own_view", .int pl.span), ("own_table", .ref tb), ("own_ends", .ref en)]) ∧ H' o = some (.tup (pl.order.map tv)) ∧ H' dt = some (.dK (dV tv pl.rows)) ∧ H' tb = some (.dK (dV tv rw8)) ∧ H' en = some (.dK (dV tv la)) ∧ la.Perm pl.last, ?_, ?_⟩
  · have hml := gp.la.le
    refine ⟨_, rfl, dl, dV tv pl.last, (pl.last.map (·.1)).map SX.S, rfl, .inl hl8, by simp only [dV, List.map_map]; rfl, by rw [List.length_map, List.length_map]; omega, fun ys q hys hso hq => ?_⟩
    obtain ⟨ls, rfl, hls, hsr⟩ := perm_S hys hso
    have naq := ne_of_none ha8 hq
    have noq := ne_of_none ho8 hq
    have ntq := ne_of_none ht8 hq
    have nlq := ne_of_none hl8 hq
    have nbq := ne_of_none htb8 hq
    have hq0 : H q = none := hk8.free hq (by simpa using naq.symm)
    have hqq : upd H8 q (.lst ((ls.map SX.S).map V.str)) q = some (.lst (ls.map tv)) := by
      rw [upd_same, List.map_map]
      rfl
    refine ⟨q, rfl, ⟨_, SqL.of hqq⟩, fun D hD => ?_⟩
    have hkq : Kp [a] H (upd H8 q (.lst ((ls.map SX.S).map V.str))) := hk8.up (.inl hq0)
    have hqD := ne_of_none hqq hD
    have haD : a ≠ D := ne_of_none (show upd H8 q _ a = some _ by rw [upd_ne naq]; exact ha8) hD
    have hoD : o ≠ D := ne_of_none (show upd H8 q _ o = some _ by rw [upd_ne noq]; exact ho8) hD
    have htD : dt ≠ D := ne_of_none (show upd H8 q _ dt = some _ by rw [upd_ne ntq]; exact ht8) hD
    have hlD : dl ≠ D := ne_of_none (show upd H8 q _ dl = some _ by rw [upd_ne nlq]; exact hl8) hD
    have hbD : tb ≠ D := ne_of_none (show upd H8 q _ tb = some _ by rw [upd_ne nbq]; exact htb8) hD
    have hD0 : H D = none := hkq.free hD (by simpa using haD.symm)
    have hlsl := hls.length_eq
    rw [List.length_map] at hlsl
    refine dc_texts (f := tv) ls (fun t => (getA pl.last t).getD []) (hls.nodup_iff.mpr gp.la.nd) (fun kvs => SqL.of (by rw [upd_ne hqD]; exact hqq)) (by omega) ?_ ?_
    · intro t ht kvs Nx hz nx
      obtain ⟨p, hp, ep⟩ := List.mem_map.mp (hls.mem_iff.mp ht)
      have hg := getA_mem gp.la.nd (show (p.1, p.2) ∈ pl.last from hp)
      rw [ep] at hg
      refine ⟨rfl, _, rfl, _, rfl, _, rfl, dl, tv p.2, rfl, ?_, kvs, kx t, rfl, upd_same, hz, ?_⟩
      · exact dget_S (f := tv) (by rw [upd_ne hlD, upd_ne nlq]; exact hl8) hg
      · rw [upd_upd]
        rw [hg] at nx
        exact nx
    refine ⟨_, rfl, a, CC, dx, _, rfl, by rw [upd_ne haD, upd_ne naq]; exact ha8, T.cl_Cutter, T.no_Cutter_own_ends, by simp, D, _, _, rfl, (hkq.up (.inl hD0)).up (.inr (by simp)), upd_same, ?_, ?_, ?_, ?_, tb_dict (ls := pl.last) gp.la.nd hls⟩
    · rw [upd_ne noo, upd_ne hoD, upd_ne noq]; exact ho8
    · rw [upd_ne ndo, upd_ne htD, upd_ne ntq]; exact ht8
    · rw [upd_ne nta, upd_ne hbD, upd_ne nbq]; exact htb8
    · rw [upd_ne haD.symm, upd_same]
  rintro σ' H9 ⟨en, la9, x9, rfl, hk9, ha9, ho9, ht9, htb9, hen9, hpl⟩
  have nea : en ≠ a := by
    rintro rfl
    rw [ha9] at hen9
    cases hen9
  -- own_sizes
  have hml := gp.rw.le
  refine ⟨dt, _, ht9, trivial, fun od => ⟨_, rfl, dt, od, rfl, .inl ⟨_, upd_same, fun D hD => ?_⟩⟩⟩
  have hDd : D ≠ dt := by
    rintro rfl
    rw [upd_same] at hD
    cases hD
  have hD9 : H9 D = none := by rw [upd_ne hDd] at hD; exact hD
  refine ⟨fun i m Hx => m = pl.rows.length - i ∧ i ≤ pl.rows.length ∧ ∃ S n, n ≤ i ∧ (∀ k : Int, S k = true ↔ ∃ p ∈ pl.rows.take i, k = p.1.length) ∧ Hx = upd (upd H9 dt (.frz od (.dK (dV tv pl.rows)))) D (SetO w D S n), ⟨_, rfl, Nat.zero_le _, fun _ => false, 0, Nat.le_refl _, fun k => ⟨fun h => (by cases h), fun h => (by obtain ⟨p, hp, _⟩ := h; cases hp)⟩, rfl⟩, ?_⟩
  rintro i m Hx ⟨rfl, hi, S, n, hn, hS, rfl⟩
  have frz : upd (upd H9 dt (.frz od (.dK (dV tv pl.rows)))) D (SetO w D S n) dt = some (.frz od (.dK (dV tv pl.rows))) := by rw [upd_ne hDd.symm, upd_same]
  by_cases hlt : i < pl.rows.length
  · refine .inr ⟨⟨frz, by rw [dV_length]; exact hlt⟩, fun Hx => ∃ S n, n ≤ i + 1 ∧ (∀ k : Int, S k = true ↔ ∃ p ∈ pl.rows.take (i + 1), k = p.1.length) ∧ Hx = upd (upd H9 dt (.frz od (.dK (dV tv pl.rows)))) D (SetO w D S n), fun Hx h => ⟨pl.rows.length - (i + 1), by omega, rfl, by omega, h⟩, ?_⟩
    rintro x Hy ⟨rfl, k0, v0, e1, rfl⟩
    have e2 : k0 = kx pl.rows[i].1 := by
      simp only [dV, List.getElem?_map, List.getElem?_eq_getElem hlt, Option.map_some, Option.some.injEq, Prod.mk.injEq] at e1
      exact e1.1.symm
    subst e2
    have hln := gp.rw.ln _ (List.getElem_mem hlt)
    have hs2 := gp.s2
    refine ⟨rfl, _, rfl, _, rfl, by omega, _, S, n, rfl, upd_same, by show n + 1 < 4096; omega, fun j => S j || decide (j = (pl.rows[i].1.length : Int)), if S (pl.rows[i].1.length : Int) = true then n else n + 1, ?_, fun k => ?_, upd_upd⟩
    · split <;> omega
    · rw [List.take_add_one, List.getElem?_eq_getElem hlt, Bool.or_eq_true, decide_eq_true_eq, hS k]
      constructor
      · rintro (⟨p, hp, e⟩ | e)
        · exact ⟨p, List.mem_append_left _ hp, e⟩
        · exact ⟨pl.rows[i], List.mem_append_right _ (by simp), e⟩
      · rintro ⟨p, hp, e⟩
        rcases List.mem_append.mp hp with hp | hp
        · exact .inl ⟨p, hp, e⟩
        · have : p = pl.rows[i] := by simpa using hp
          rw [this] at e
          exact .inr e
  · have ei : i = pl.rows.length := by omega
    refine .inl ⟨⟨frz, by rw [dV_length, ei]; exact Nat.le_refl _⟩, frz, ?_⟩
    rw [upd_lock ht9 hDd]
    rw [ei, List.take_length] at hS
    have haD := ne_of_none ha9 hD9
    have hoD := ne_of_none ho9 hD9
    have hbD := ne_of_none htb9 hD9
    have heD := ne_of_none hen9 hD9
    have hD0 : H D = none := hk9.free hD9 (by simpa using haD.symm)
    refine ⟨D, S, n, rfl, upd_same, by omega, fun ns r hup hmem hnl hr => ?_⟩
    have hkr : Kp [a] H (upd H9 D (SetO w D S n)) := hk9.up (.inl hD0)
    have nar : a ≠ r := ne_of_none (show upd H9 D _ a = some _ by rw [upd_ne haD]; exact ha9) hr
    have nor : o ≠ r := ne_of_none (show upd H9 D _ o = some _ by rw [upd_ne hoD]; exact ho9) hr
    have nbr : tb ≠ r := ne_of_none (show upd H9 D _ tb = some _ by rw [upd_ne hbD]; exact htb9) hr
    have ner : en ≠ r := ne_of_none (show upd H9 D _ en = some _ by rw [upd_ne heD]; exact hen9) hr
    have hr0 : H r = none := hkr.free hr (by simpa using nar.symm)
    have hkr2 : Kp [a] H (upd (upd H9 D (SetO w D S n)) r (.lst (ns.map V.int))) := hkr.up (.inl hr0)
    refine ⟨r, _, rfl, .inl ⟨SqL.of upd_same, fun z hz => ?_⟩⟩
    have naz : a ≠ z := ne_of_none (show upd (upd H9 D _) r _ a = some _ by rw [upd_ne nar, upd_ne haD]; exact ha9) hz
    have noz : o ≠ z := ne_of_none (show upd (upd H9 D _) r _ o = some _ by rw [upd_ne nor, upd_ne hoD]; exact ho9) hz
    have nbz : tb ≠ z := ne_of_none (show upd (upd H9 D _) r _ tb = some _ by rw [upd_ne nbr, upd_ne hbD]; exact htb9) hz
    have nez : en ≠ z := ne_of_none (show upd (upd H9 D _) r _ en = some _ by rw [upd_ne ner, upd_ne heD]; exact hen9) hz
    have hz0 : H z = none := hkr2.free hz (by simpa using naz.symm)
    have hkz : Kp [a] H (upd (upd (upd H9 D (SetO w D S n)) r (.lst (ns.map V.int))) z (.tup (ns.map V.int))) := hkr2.up (.inl hz0)
    refine ⟨_, rfl, a, CC, dx, _, rfl, by rw [upd_ne naz, upd_ne nar, upd_ne haD]; exact ha9, T.cl_Cutter, T.no_Cutter_own_sizes, by simp, ?_⟩
    have hkF : Kp [a] H (upd (upd (upd (upd H9 D (SetO w D S n)) r (.lst (ns.map V.int))) z (.tup (ns.map V.int))) a (CutO CC dx b o tb en z pl.span)) := hkz.up (.inr (by simp))
    refine k _ ⟨dx, b, o, tb, en, z, rw8, la9, ns, upd_same, ⟨_, _, _, _, _, _, _, keepB _ hkF⟩, ?_, ?_, ?_, ?_, hpr, hpl, hup, fun k => (hmem k).trans (hS k), by omega, gp⟩ hkF
    · rw [upd_ne noo, upd_ne noz, upd_ne nor, upd_ne hoD]; exact ho9
    · rw [upd_ne nta, upd_ne nbz, upd_ne nbr, upd_ne hbD]; exact htb9
    · rw [upd_ne nea, upd_ne nez, upd_ne ner, upd_ne heD]; exact hen9
    · rw [upd_ne naz.symm, upd_same]
end
end K75
-- part P9
set_option Elab.async false
set_option linter.all false
set_option maxRecDepth 100000
set_option maxHeartbeats 4000000
namespace K75
open PySem PySem.Spec PyProof.Rows L2
section
variable {bk : Bk} {n : Nat} {m : Tb} {ns : List Int} {w : Tx0}
theorem sizes_hit (g : GoodTb bk n m) (up : ns.Pairwise (· < ·)) (mem : ∀ k : Int, k ∈ ns ↔ ∃ p ∈ m, k = p.1.length) {j : Nat} {k : Int} {p : Tx0} (hj : ns[j]? = some k) (no : ∀ (i : Nat) (q : Int), i < j → ns[i]? = some q → getA m (w.take q.toNat) = none)
    (hp : getA m (w.take k.toNat) = some p) : firstRow m w (List.range' 1 w.length) = some p := by
  obtain ⟨q0, hq0, ek⟩ := (mem k).mp (List.mem_of_getElem? hj)
  have hk1 := (g.ln _ hq0).1
  -- a smaller size that is told is an earlier one
  have early : ∀ s : Nat, 1 ≤ s → s < k.toNat → s ≤ w.length → getA m (w.take s) = none := by
    intro s h1 h2 h3
    cases e : getA m (w.take s) with
    | none => rfl
    | some u =>
      have hm := getA_some e
      have hl : (w.take s).length = s := by rw [List.length_take]; omega
      have hin : ((s : Nat) : Int) ∈ ns := (mem _).mpr ⟨_, hm, by show (s : Int) = ((w.take s).length : Int); rw [hl]⟩
      obtain ⟨i, hi, ei⟩ := List.getElem_of_mem hin
      have hjl := (List.getElem?_eq_some_iff.mp hj).1
      have ej := (List.getElem?_eq_some_iff.mp hj).2
      have hij : i < j := by
        rcases Nat.lt_trichotomy i j with h | h | h
        · exact h
        · subst h
          rw [ei] at ej
          omega
        · have := List.pairwise_iff_getElem.mp up j i hjl hi h
          rw [ej, ei] at this
          omega
      have := no i s hij (by rw [List.getElem?_eq_getElem hi, ei])
      rw [Int.toNat_natCast, e] at this
      cases this
  by_cases hle : k.toNat ≤ w.length
  · refine firstRow_hit (i := k.toNat - 1) (fun s h1 h2 => early s h1 (by omega) (by omega)) (by omega) ?_
    rw [show k.toNat - 1 + 1 = k.toNat by omega]
    exact hp
  · have ew : w.take k.toNat = w := List.take_of_length_le (by omega)
    rw [ew] at hp
    have hm := getA_some hp
    have hl := (g.ln _ hm).1
    have := early w.length hl (by omega) (Nat.le_refl _)
    rw [List.take_length, hp] at this
    cases this
theorem sizes_none (mem : ∀ k : Int, k ∈ ns ↔ ∃ p ∈ m, k = p.1.length) (no : ∀ (i : Nat) (q : Int), ns[i]? = some q → getA m (w.take q.toNat) = none) : firstRow m w (List.range' 1 w.length) = none := by
  refine firstRow_none fun s h1 h2 => ?_
  cases e : getA m (w.take s) with
  | none => rfl
  | some u =>
    have hm := getA_some e
    have hl : (w.take s).length = s := by rw [List.length_take]; omega
    have hin : ((s : Nat) : Int) ∈ ns := (mem _).mpr ⟨_, hm, by show (s : Int) = ((w.take s).length : Int); rw [hl]⟩
    obtain ⟨i, hi, ei⟩ := List.getElem_of_mem hin
    have := no i s (by rw [List.getElem?_eq_getElem hi, ei])
    rw [Int.toNat_natCast, e] at this
    cases this
end
section
variable {P : Program} {w : World} {K : PySem.W.Frag} {mg : Str → Option Value} {base : Heap} {CB CC CF : Addr}
def sp_told_by (CB CC : Addr) : Sp := fun vs H Q _ => ∃ (a : Addr) (bk : Bk) (pl : Pl) (t : Tx0) (b : Bool), vs = [.ref a, tv t, .bl b] ∧ CutH CB CC H a bk pl ∧ Ov bk t ∧ t ≠ [] ∧ t.length ≤ 10000 ∧ ∀ H', Kp [] H H' → Q (tv (tellM pl t b)) H'
theorem c_Cutter_told_by (T : Ty K mg CB CC CF) : C8.Met P w K mg base 1 CC "told_by" (sp_told_by CB CC) [] := by
  refine met_of T.m_Cutter_told_by T.cl_Cutter sc_p_Cutter_told_by (fun _ _ _ _ _ _ us hl => match us, hl with | [_, _, _], _ => rfl) (fun vs H Q E h => ?_) (fun cdv A outer f s H vs Q E hr h => ?_)
  · obtain ⟨a, bk, pl, t, b, rfl, _⟩ := h
    rfl
  · obtain ⟨a, bk, pl, t, b, rfl, ⟨dx, ab, o, tb, en, sz, rw0, la, ns, c⟩, ho, hne, htl, q⟩ := h
    have h3 : sizeLine = 16777216 := sizeLine_eq
    have hlt : t.length ≤ sizeLine := by omega
    have gp := c.gp
    have er : ∀ k, getA rw0 k = getA pl.rows k := fun k => getA_perm c.hpr gp.rw.nd k
    have el : ∀ k, getA la k = getA pl.last k := fun k => getA_perm c.hpl gp.la.nd k
    refine ⟨_, (C8.pss_cut (ps_if (PW.pt (pw_and (pt_val (pv 2)) (pw_and1 (pt_cmp (pc_din (hu1 hr) (pv 1) (pe_fldK (K := K) rfl (pv 0)))))))
    (pss_one (ps_ret (pe_dget (hu1 hr) (pe_fldK (K := K) rfl (pv 0)) (pv 1) (fun _ _ => rfl))))
    pss_nil)
  (pss_cons (ps_for PassesOwn.never rfl (pi_tup (pe_fldK (K := K) rfl (pv 0))) (pg_name (i := 3) sc_p_Cutter_told_by.nd rfl (Or.inl rfl))
    (pss_one (ps_if (pt_cmp (pc_din (hu1 hr) (pe_slice sl_tx (pv 1) po_none (po_some (pv 3))) (pe_fldK (K := K) rfl (pv 0))))
      (pss_one (ps_ret (pe_dget (hu1 hr) (pe_fldK (K := K) rfl (pv 0)) (pe_slice sl_tx (pv 1) po_none (po_some (pv 3))) (fun _ _ => rfl))))
      pss_nil)))
  (pss_one (ps_ret (pe_ix (ix_listK (K := K) rfl) (pe_lc (own := [("piece", 4)]) (g := gName 4) rfl sc_p_Cutter_told_by.nd (pi_tup (pe_fldK (K := K) rfl (pv 0))) (blkOk_by (own := [("piece", 4)]) (N := N_p_Cutter_told_by) (sc := (defScope s_p_Cutter_told_by)) (by decide +kernel)) (fun _ _ _ _ _ => (pg_name (i := 4) sc_p_Cutter_told_by.nd rfl (Or.inl rfl))) (fun _ _ _ _ _ => (pts_one (pt_val (pe_m1 PySem.F.slot_str_startswith PySem.F.type_str_startswith mt_startswith (pv 1) (pv 4))))) (fun _ _ _ _ _ => (pv 4))) pe_int (fun _ _ => rfl)))))), ?_⟩
    refine ⟨fun σ' H' => σ' = [some (.ref a), some (tv t), some (.bl b), none, none] ∧ H = H' ∧ (if b = true then getA pl.last t else none) = none, ?_, ?_⟩
    · refine ⟨_, rfl, _, rfl, ite2 (fun hb => ⟨_, rfl, _, rfl, _, _, _, _, _, rfl, c.ha, T.cl_Cutter, T.no_Cutter_own_ends, rfl, _, _, rfl, dget_A c.he t, _, rfl, ?_⟩) (fun hb => ⟨rfl, rfl, if_neg hb⟩)⟩
      rw [el]
      refine ite2 (fun hc => ?_) (fun hc => ?_)
      · obtain ⟨p, hp2⟩ : ∃ p, getA pl.last t = some p := by
          cases e : getA pl.last t with
          | none => rw [e] at hc; exact absurd hc (by decide)
          | some p => exact ⟨p, rfl⟩
        refine ⟨_, rfl, _, _, _, _, _, rfl, c.ha, T.cl_Cutter, T.no_Cutter_own_ends, rfl, _, rfl, en, tv p, rfl, dget_S c.he (by rw [el]; exact hp2), ?_⟩
        have e : tellM pl t b = p := by
          unfold tellM
          rw [if_pos hb, hp2]
        rw [← e]
        exact q H (kp_refl H)
      · refine ⟨rfl, rfl, ?_⟩
        rw [if_pos hb]
        cases e : getA pl.last t with
        | none => rfl
        | some p => rw [e] at hc; exact absurd rfl hc
    · rintro σ' H' ⟨rfl, rfl, hn⟩
      refine ⟨_, rfl, _, _, _, _, _, rfl, c.ha, T.cl_Cutter, T.no_Cutter_own_sizes, rfl, sz, rfl, ⟨_, SqT.of c.hz⟩, ?_⟩
      refine for_it (walk_tup (xs := ns.map V.int)) (fun i σ' H' => ∃ x : Option V, σ' = [some (.ref a), some (tv t), some (.bl b), x, none] ∧ H = H' ∧ ∀ (j : Nat) (k : Int), j < i → ns[j]? = some k → getA pl.rows (t.take k.toNat) = none) ⟨none, rfl, rfl, fun j k h => by omega⟩ (fun i σ H' _ ⟨_, _, h, _⟩ => by rw [← h]; exact SqT.of c.hz) ?_ ?_
      · rintro i x σ H1 H2 hi ⟨x3, rfl, rfl, hno⟩ ⟨rfl, ex⟩
        rw [List.getElem?_map] at ex
        obtain ⟨k, hk, rfl⟩ := Option.map_eq_some_iff.mp ex
        obtain ⟨p0, hp0, ek⟩ := (c.mem k).mp (List.mem_of_getElem? hk)
        have ek2 : k = ((k.toNat : Nat) : Int) := by omega
        refine ⟨_, rfl, _, rfl, _, rfl, _, rfl, hlt, .inl ⟨rfl, k.toNat, by rw [← ek2], _, rfl, _, _, _, _, _, rfl, c.ha, T.cl_Cutter, T.no_Cutter_own_table, rfl, _, _, rfl, dget_A c.ht _, _, rfl, ?_⟩⟩
        rw [er]
        refine ite2 (fun hc => ?_) (fun hc => ?_)
        · obtain ⟨p, hp2⟩ : ∃ p, getA pl.rows (t.take k.toNat) = some p := by
            cases e : getA pl.rows (t.take k.toNat) with
            | none => rw [e] at hc; exact absurd hc (by decide)
            | some p => exact ⟨p, rfl⟩
          refine ⟨_, rfl, _, _, _, _, _, rfl, c.ha, T.cl_Cutter, T.no_Cutter_own_table, rfl, _, rfl, _, rfl, _, rfl, _, rfl, hlt, .inl ⟨rfl, k.toNat, by rw [← ek2], tb, tv p, rfl, dget_S c.ht (by rw [er]; exact hp2), ?_⟩⟩
          have e : tellM pl t b = p := by
            unfold tellM
            rw [hn, sizes_hit gp.rw c.up c.mem hk (fun j q h1 h2 => hno j q h1 h2) hp2]
          rw [← e]
          exact q _ (kp_refl _)
        · refine ⟨_, rfl, rfl, fun j q0 h1 h2 => ?_⟩
          by_cases h4 : j < i
          · exact hno j q0 h4 h2
          · have : j = i := by omega
            rw [this, hk] at h2
            rw [← Option.some.inj h2]
            cases e : getA pl.rows (t.take k.toNat) with
            | none => rfl
            | some p => rw [e] at hc; exact absurd rfl hc
      · rintro σ H1 ⟨x3, rfl, rfl, hno⟩
        have hno2 : ∀ (j : Nat) (k : Int), ns[j]? = some k → getA pl.rows (t.take k.toNat) = none := fun j k h => hno j k (by rw [List.length_map]; exact (List.getElem?_eq_some_iff.mp h).1) h
        obtain ⟨p, hp1, hp2, hp3⟩ := head_pieces gp.od ho hne
        have hol : pl.order.length ≤ 12 := by
          have := gp.od.length_eq
          have h5 := c.hb.g.le
          rw [List.length_map] at this
          omega
        refine ⟨_, rfl, _, _, _, _, _, rfl, c.ha, T.cl_Cutter, T.no_Cutter_own_order, rfl, o, rfl, ⟨_, SqT.of c.ho⟩, fun D hD => ?_⟩
        have noD := ne_of_none c.ho hD
        refine comp_tup pl.order tv (fun p => beg p t) tv (fun acc => SqT.of (by rw [upd_ne noD]; exact c.ho)) (by omega) ?_ ?_
        · intro a ha acc Nx hz h1 h2
          refine ⟨rfl, _, rfl, ⟨_, rfl⟩, _, rfl, _, _, rfl, rfl, _, rfl, ?_⟩
          rw [starts_S]
          exact ite2 (fun hc => ⟨_, rfl, acc, upd_same, hz, by rw [upd_upd]; exact h1 hc⟩) (fun hc => h2 (by simpa using hc))
        · obtain ⟨l', hl'⟩ : ∃ l', pl.order.filter (fun p => beg p t) = p :: l' := by
            cases e : pl.order.filter (fun p => beg p t) with
            | nil => rw [e] at hp1; cases hp1
            | cons a l' => rw [e] at hp1; cases hp1; exact ⟨l', rfl⟩
          refine ⟨_, _, _, tv p, rfl, rfl, SqL.of upd_same, by rw [hl']; exact atI_nat rfl, ?_⟩
          have e : tellM pl t b = p := by
            unfold tellM
            rw [hn, sizes_none c.mem hno2, hp1]
            rfl
          rw [← e]
          exact q _ ((kp_refl _).up (.inl hD))
end
end K75
-- part P10
set_option Elab.async false
set_option linter.all false
set_option maxRecDepth 100000
set_option maxHeartbeats 4000000
namespace K75
open PySem PySem.Spec PyProof.Rows L2
/-- the price of a cut -/
def cost (bk : Bk) (ps : List Tx0) : Int := (ps.map fun p => (getA bk p).getD 0).sum
def sint (σ : L2.St) (i : Nat) : Nat := match σ[i]? with | some (some (.int z)) => z.toNat | _ => 0
section
variable {P : Program} {w : World} {K : PySem.W.Frag} {mg : Str → Option Value} {base : Heap} {CB CC CF : Addr}
def sp_cut_in (CB CC : Addr) : Sp := fun vs H Q _ => ∃ (a : Addr) (bk : Bk) (pl : Pl) (t : Tx0), vs = [.ref a, tv t] ∧ CutH CB CC H a bk pl ∧ Ov bk t ∧ t.length ≤ 8000 ∧
  ∀ (f : Addr) (H' : Hp), H f = none → Kp [] H H' → H' f = some (.lst ((cutM pl t).map tv)) → Q (.ref f) H'
theorem c_Cutter_cut_in (T : Ty K mg CB CC CF) : C8.Met P w K mg base 2 CC "cut_in" (sp_cut_in CB CC) [] := by
  refine met_of T.m_Cutter_cut_in T.cl_Cutter sc_p_Cutter_cut_in (fun _ _ _ _ _ _ us hl => match us, hl with | [_, _], _ => rfl) (fun vs H Q E h => ?_) (fun cdv A outer f s H vs Q E hr h => ?_)
  · obtain ⟨a, bk, pl, t, rfl, _⟩ := h
    rfl
  · obtain ⟨a, bk, pl, t, rfl, hc, ho, htl, k⟩ := h
    have h3 : sizeLine = 16777216 := sizeLine_eq
    have hlt : t.length ≤ sizeLine := by omega
    refine ⟨_, (pss_cons (ps_par (i := 2) (j := 3) (by rfl) sc_p_Cutter_cut_in.nd rfl rfl (by decide) rfl rfl (pa_cons (pe_lst pa_nil) (pa_cons pe_int pa_nil)) (by rfl))
  (pss_cons (ps_while PassesOwn.never (pt_cmpR op_lt (pv 3) (pe_callB call_lenT (by rfl) T.n_len (by decide +kernel) (pa_cons (pv 1) pa_nil)) (nomark _))
    (pss_cons (ps_set (i := 4) sc_p_Cutter_cut_in.nd rfl (Or.inl rfl) (pe_slice sl_tx (pv 1) (po_some (pv 3)) (po_some (pe_op op_add (pv 3) (pe_fldK (K := K) rfl (pv 0))))))
    (pss_cons (ps_expr (pe_bm PySem.F.plainAttrs_list PySem.F.slot_list_append PySem.F.type_list_append mt_append (pv 2) (pa_cons (C8.pe_mt (c_Cutter_told_by T) hr (by decide) (pv 0) (pa_cons (pv 4) (pa_cons (pe_cmpR op_lt (pe_callB call_lenT (by rfl) T.n_len (by decide +kernel) (pa_cons (pv 4) pa_nil)) (pe_fldK (K := K) rfl (pv 0)) (nomark _)) pa_nil))) pa_nil)))
    (pss_one (ps_aug (i := 3) sc_p_Cutter_cut_in.nd rfl (Or.inl rfl) (pe_callB call_lenT (by rfl) T.n_len (by decide +kernel) (pa_cons (pe_ix (ix_listK (K := K) rfl) (pv 2) (pe_un un_neg pe_int) (fun _ _ => rfl)) pa_nil)) ip_add)))))
  (pss_one (ps_ret (pv 2))))), ?_⟩
    obtain ⟨dx, ab, o, tb, en, sz, rw0, la, ns, c⟩ := hc
    have g := c.hb.g
    have gp := c.gp
    have hs1 := gp.s1
    have hs2 := gp.s2
    refine ⟨by show 0 ≤ sizeLine; omega, fun f hf => ⟨_, _, rfl, ?_⟩⟩
    refine while_by (fun σ H' => ∃ (fs : List Tx0) (n : Nat) (x : Option V), σ = [some (.ref a), some (tv t), some (.ref f), some (.int n), x] ∧ fs ++ cutM pl (t.drop n) = cutM pl t ∧ n ≤ t.length ∧ fs.length ≤ n ∧ Kp [] H H' ∧ H' f = some (.lst (fs.map tv)))
      (fun σ _ => t.length - sint σ 3) ⟨[], 0, none, rfl, rfl, Nat.zero_le _, Nat.le_refl _, (kp_refl H).up (.inl hf), upd_same⟩ ?_ ?_
    · rintro σ H1 ⟨fs, n, x, rfl, hcm, hn, hl, hk, hf1⟩
      have c1 := c.kp0 hk
      refine ⟨_, rfl, _, rfl, _, rfl, hlt, _, _, rfl, rfl, _, rfl, ?_⟩
      refine ite2 (fun hb => ?_) (fun hb => ?_)
      · have hnl : n < t.length := by
          have := of_decide_eq_true hb
          omega
        have hor := ov_drop ho n
        have hne : t.drop n ≠ [] := by
          intro e
          have := congrArg List.length e
          rw [List.length_drop] at this
          simp at this
          omega
        refine ⟨_, rfl, _, rfl, _, rfl, _, rfl, _, rfl, _, _, _, _, _, rfl, c1.ha, T.cl_Cutter, T.no_Cutter_own_view, rfl, _, _, rfl, rfl, _, rfl, _, rfl, hlt, .inr (.inr ⟨n, n + pl.span, rfl, by rw [Int.natCast_add], ?_⟩)⟩
        rw [show n + pl.span - n = pl.span by omega]
        have hwl : ((t.drop n).take pl.span).length ≤ 8000 := by
          rw [List.length_take, List.length_drop]
          omega
        refine ⟨_, rfl, .inl ⟨rfl, _, SqL.of hf1⟩, _, rfl, a, dx, _, rfl, c1.ha, rfl, _, rfl, _, rfl, _, rfl, by omega, _, rfl, _, _, _, _, _, rfl, c1.ha, T.cl_Cutter, T.no_Cutter_own_view, rfl, _, _, rfl, rfl, ?_⟩
        refine ⟨a, bk, pl, (t.drop n).take pl.span, _, rfl, ⟨dx, ab, o, tb, en, sz, rw0, la, ns, c1⟩, ov_take hor _, take_ne hs1 hne, by omega, fun H2 hk2 => ?_⟩
        have hf2 := hk2 _ _ hf1 (by simp)
        have eb : decide ((((t.drop n).take pl.span).length : Int) < (pl.span : Int)) = decide (((t.drop n).take pl.span).length < pl.span) := by
          rw [decide_eq_decide]
          omega
        rw [eb]
        have ec := cutM_cons g gp hor hne rfl
        have ln := tell_len g gp (ov_take hor pl.span) (take_ne hs1 hne) (decide (((t.drop n).take pl.span).length < pl.span))
        generalize tellM pl ((t.drop n).take pl.span) (decide (((t.drop n).take pl.span).length < pl.span)) = p at ec ln
        have ln2 := ln.2
        rw [List.length_take, List.length_drop] at ln2
        refine ⟨f, _, _, rfl, rfl, hf2, ?_, ?_⟩
        · rw [List.length_map]
          omega
        refine ⟨_, rfl, _, rfl, _, rfl, _, _, _, tv p, rfl, rfl, SqL.of upd_same, atI_end _ _, _, rfl, by omega, _, _, rfl, rfl, ?_⟩
        refine ⟨⟨fs ++ [p], n + p.length, _, by rw [Int.natCast_add]; rfl, ?_, by omega, ?_, ?_, ?_⟩, ?_⟩
        · rw [← hcm, ec, List.append_assoc, List.drop_drop]
          rfl
        · rw [List.length_append, List.length_singleton]
          omega
        · exact (hk.trans hk2).up (.inl hf)
        · rw [upd_same, List.map_append]
          rfl
        · show t.length - ((n : Int) + (p.length : Int)).toNat < t.length - (n : Int).toNat
          omega
      · have hnl : n = t.length := by
          have : ¬ ((n : Int) < (t.length : Int)) := fun z => hb (decide_eq_true z)
          omega
        rw [hnl, List.drop_length, cutM_nil, List.append_nil] at hcm
        rw [hcm] at hf1
        exact ⟨_, rfl, k f H1 hf hk hf1⟩
    · intro σ H Q Q' hQ h
      obtain ⟨z1, z2, z3, z4, z5, z6, z7, z8, z9, z10, z11, z12, b, q⟩ := h
      exact ⟨z1, z2, z3, z4, z5, z6, z7, z8, z9, z10, z11, z12, b, hQ _ _ q⟩
end
end K75
-- part P11
set_option Elab.async false
set_option linter.all false
set_option maxRecDepth 100000
set_option maxHeartbeats 4000000
namespace K75
open PySem PySem.Spec PyProof.Rows L2
theorem getA_pcs {bk : Bk} (g : GoodBook bk) {p : Tx0} (h : p ∈ pcs bk) : ∃ n, getA bk p = some n := by
  obtain ⟨q, hq, rfl⟩ := List.mem_map.mp h
  exact ⟨q.2, getA_mem g.nd hq⟩
theorem lay_tup {ts : List Tx0} (h : ∀ t ∈ ts, Lt t) : (PyData.tuple (dTx ts)).canLay0 = true := by simp only [PyData.canLay0, (texts_lay ts h).1]
theorem shp_tup {ts : List Tx0} (h : ∀ t ∈ ts, Lt t) : SeqAt.shaped (.tuple (dTx ts)) = true := by
  unfold SeqAt.shaped
  exact Bool.and_eq_true_iff.mpr ⟨lay_tup h, decide_eq_true (by have := (texts_lay ts h).2; simp only [PyData.depth]; omega)⟩
section
variable {P : Program} {w : World} {K : PySem.W.Frag} {mg : Str → Option Value} {base : Heap} {CB CC CF : Addr}
def sp_price_in (CB CC : Addr) : Sp := fun vs H Q _ => ∃ (a : Addr) (bk : Bk) (pl : Pl) (t : Tx0), vs = [.ref a, tv t] ∧ CutH CB CC H a bk pl ∧ Ov bk t ∧ t.length ≤ 8000 ∧ ∀ H', Kp [] H H' → Q (.int (cost bk (cutM pl t))) H'
theorem cut_len {bk : Bk} {pl : Pl} (g : GoodBook bk) (gp : GoodPl bk pl) {t : Tx0} (ho : Ov bk t) : (cutM pl t).length ≤ t.length := by
  obtain ⟨h1, h2⟩ := cut_ok g gp t.length t (Nat.le_refl _) ho
  have := congrArg List.length h2
  rw [List.length_flatten] at this
  rw [← this]
  clear this h2
  generalize cutM pl t = l at h1
  induction l with
  | nil => exact Nat.zero_le _
  | cons p l ih =>
    have hp := (pcs_len g (h1 p (List.mem_cons_self ..))).1
    have := ih fun q hq => h1 q (List.mem_cons_of_mem _ hq)
    rw [List.map_cons, List.sum_cons, List.length_cons]
    omega
theorem c_Cutter_price_in (T : Ty K mg CB CC CF) : C8.Met P w K mg base 3 CC "price_in" (sp_price_in CB CC) [] := by
  refine met_of T.m_Cutter_price_in T.cl_Cutter sc_p_Cutter_price_in (fun _ _ _ _ _ _ us hl => match us, hl with | [_, _], _ => rfl) (fun vs H Q E h => ?_) (fun cdv A outer f s H vs Q E hr h => ?_)
  · obtain ⟨a, bk, pl, t, rfl, _⟩ := h
    rfl
  · obtain ⟨a, bk, pl, t, rfl, hc, ho, htl, k⟩ := h
    have h3 : sizeLine = 16777216 := sizeLine_eq
    refine ⟨_, (pss_one (ps_ret (pe_callB (cr_sum rfl) (by rfl) T.n_sum (by decide +kernel) (pa_cons (pe_lc (own := [("piece", 2)]) (g := gName 2) rfl sc_p_Cutter_price_in.nd (pi_list (C8.pe_mt (c_Cutter_cut_in T) hr (by decide) (pv 0) (pa_cons (pv 1) pa_nil))) (blkOk_by (own := [("piece", 2)]) (N := N_p_Cutter_price_in) (sc := (defScope s_p_Cutter_price_in)) (by decide +kernel)) (fun _ _ _ _ _ => (pg_name (i := 2) sc_p_Cutter_price_in.nd rfl (Or.inl rfl))) (fun _ _ _ _ _ => pts_nil) (fun _ _ _ _ _ => (pe_dget (hu1 hr) (pe_fldK (K := K) rfl (pe_fldK (K := K) rfl (pv 0))) (pv 2) (fun _ _ => rfl)))) pa_nil)))), ?_⟩
    obtain ⟨dx, ab, o, tb, en, sz, rw0, la, ns, c⟩ := hc
    have g := c.hb.g
    refine ⟨_, rfl, a, dx, _, rfl, c.ha, rfl, _, rfl, a, bk, pl, t, rfl, ⟨dx, ab, o, tb, en, sz, rw0, la, ns, c⟩, ho, htl, fun f1 H1 hf hk hf1 => ?_⟩
    have c1 := c.kp0 hk
    have cl := cut_len g c.gp ho
    refine ⟨f1, rfl, ⟨_, SqL.of hf1⟩, fun D hD => ?_⟩
    have hfD := ne_of_none hf1 hD
    have kD : ∀ acc, Kp [] H1 (upd H1 D (.lst acc)) := fun acc => (kp_refl H1).up (.inl hD)
    refine comp_list (cutM pl t) tv (fun _ => true) (fun p => .int ((getA bk p).getD 0)) (fun acc => SqL.of (by rw [upd_ne hfD]; exact hf1)) (by omega) ?_ ?_
    · intro p hp acc Nx hz h1 h2
      obtain ⟨n, hn⟩ := getA_pcs g ((cut_ok g c.gp t.length t (Nat.le_refl _) ho).1 p hp)
      have c2 := c1.kp0 (kD acc)
      obtain ⟨dxb, d, p0, al, ac, lg, de, b2⟩ := c2.hb
      refine ⟨rfl, _, rfl, _, _, _, _, _, rfl, c2.ha, T.cl_Cutter, T.no_Cutter_own_book, rfl, _, _, _, _, _, rfl, b2.ha, T.cl_Book, T.no_Book_own_prices, rfl, _, rfl, d, .int n, rfl, dget_S b2.hd hn, acc, upd_same, hz, ?_⟩
      rw [upd_upd]
      have := h1 rfl
      rw [hn] at this
      exact this
    · refine ⟨D, (cutM pl t).map fun p => (getA bk p).getD 0, rfl, SqL.of ?_, ?_⟩
      · rw [upd_same, List.filter_eq_self.mpr fun _ _ => rfl]
        simp only [List.map_map]
        rfl
      · exact k _ (hk.up (.inl (hk.free hD (by simp))))
def sp_Cutter_cut (CB CC : Addr) : Sp := fun vs H Q _ => ∃ (a : Addr) (bk : Bk) (pl : Pl) (t : Tx0), vs = [.ref a, tv t] ∧ CutH CB CC H a bk pl ∧ Ov bk t ∧ t.length ≤ 8000 ∧
  ∀ (q : Addr) (H' : Hp), H q = none → Kp [] H H' → H' q = some (.tup ((cutM pl t).map tv)) → Q (.ref q) H'
theorem c_Cutter_cut (T : Ty K mg CB CC CF) : C8.Met P w K mg base 5 CC "cut" (sp_Cutter_cut CB CC) [] := by
  refine met_of T.m_Cutter_cut T.cl_Cutter sc_p_Cutter_cut (fun _ _ _ _ _ _ us hl => match us, hl with | [_, _], _ => rfl) (fun vs H Q E h => ?_) (fun cdv A outer f s H vs Q E hr h => ?_)
  · obtain ⟨a, bk, pl, t, rfl, _⟩ := h
    rfl
  · obtain ⟨a, bk, pl, t, rfl, ⟨dx, ab, o, tb, en, sz, rw0, la, ns, c⟩, ho, htl, k⟩ := h
    refine ⟨_, (pss_cons (ps_expr (C8.pe_c (c_p_require_text T) hr (by decide) (by rfl) (pa_cons (pe_fldK (K := K) rfl (pv 0)) (pa_cons (pv 1) pa_nil))))
  (pss_one (ps_ret (pe_callTy call_tuple_of (by rfl) T.n_tuple (by decide +kernel) (pa_cons (C8.pe_mt (c_Cutter_cut_in T) hr (by decide) (pv 0) (pa_cons (pv 1) pa_nil)) pa_nil))))), ?_⟩
    refine ⟨_, rfl, _, _, _, _, _, rfl, c.ha, T.cl_Cutter, T.no_Cutter_own_book, rfl, _, rfl, ab, bk, t, rfl, c.hb, ho, htl, fun H1 hk1 => ?_⟩
    have c1 := c.kp0 hk1
    refine ⟨_, rfl, a, dx, _, rfl, c1.ha, rfl, _, rfl, a, bk, pl, t, rfl, ⟨dx, ab, o, tb, en, sz, rw0, la, ns, c1⟩, ho, htl, fun f2 H2 hf hk2 hf2 => ?_⟩
    refine ⟨f2, _, rfl, .inl ⟨SqL.of hf2, fun q hq => ?_⟩⟩
    have hk := hk1.trans hk2
    exact k q _ (hk.free hq (by simp)) (hk.up (.inl (hk.free hq (by simp)))) upd_same
def sp_Cutter_behind (CB CC : Addr) : Sp := fun vs H Q _ => ∃ (a : Addr) (bk : Bk) (pl : Pl) (t : Tx0), vs = [.ref a, tv t] ∧ CutH CB CC H a bk pl ∧ Ov bk t ∧ t.length ≤ 8000 ∧
  ∀ (v : Int) (H' : Hp), Kp [] H H' → Cheap bk t v → Q (.int (cost bk (cutM pl t) - v)) H'
theorem c_Cutter_behind (T : Ty K mg CB CC CF) : C8.Met P w K mg base 5 CC "behind" (sp_Cutter_behind CB CC) [] := by
  refine met_of T.m_Cutter_behind T.cl_Cutter sc_p_Cutter_behind (fun _ _ _ _ _ _ us hl => match us, hl with | [_, _], _ => rfl) (fun vs H Q E h => ?_) (fun cdv A outer f s H vs Q E hr h => ?_)
  · obtain ⟨a, bk, pl, t, rfl, _⟩ := h
    rfl
  · obtain ⟨a, bk, pl, t, rfl, ⟨dx, ab, o, tb, en, sz, rw0, la, ns, c⟩, ho, htl, k⟩ := h
    refine ⟨_, (pss_cons (ps_expr (C8.pe_c (c_p_require_text T) hr (by decide) (by rfl) (pa_cons (pe_fldK (K := K) rfl (pv 0)) (pa_cons (pv 1) pa_nil))))
  (pss_one (ps_ret (pe_op op_sub (C8.pe_mt (c_Cutter_price_in T) hr (by decide) (pv 0) (pa_cons (pv 1) pa_nil)) (C8.pe_c (c_p_cheapest_price_in T) hr (by decide) (by rfl) (pa_cons (pe_fldK (K := K) rfl (pv 0)) (pa_cons (pv 1) pa_nil))))))), ?_⟩
    refine ⟨_, rfl, _, _, _, _, _, rfl, c.ha, T.cl_Cutter, T.no_Cutter_own_book, rfl, _, rfl, ab, bk, t, rfl, c.hb, ho, htl, fun H1 hk1 => ?_⟩
    have c1 := c.kp0 hk1
    refine ⟨_, rfl, a, dx, _, rfl, c1.ha, rfl, _, rfl, a, bk, pl, t, rfl, ⟨dx, ab, o, tb, en, sz, rw0, la, ns, c1⟩, ho, htl, fun H2 hk2 => ?_⟩
    have c2 := c1.kp0 hk2
    refine ⟨_, rfl, _, _, _, _, _, rfl, c2.ha, T.cl_Cutter, T.no_Cutter_own_book, rfl, _, rfl, ab, bk, t, rfl, c2.hb, ho, by omega, fun v H3 hk3 hv => ⟨_, _, rfl, rfl, k v H3 ((hk1.trans hk2).trans hk3) hv⟩⟩
/-! ### == -/
def sp_Book_eq (CB : Addr) : Sp := fun vs H Q _ => ∃ (a : Addr) (bk : Bk), vs = [.ref a, .ref a] ∧ BookH CB H a bk ∧ Q (.bl true) H
theorem dict_same {β : Type} {f : β → V} {m : List (Tx0 × β)} (nd : (m.map (·.1)).Nodup) (hf : ∀ v, flatB (f v) = true) : ∀ p ∈ dV f m, valV (dV f m) p.1 = some p.2 ∧ flatB p.2 = true := by
  intro p hp
  obtain ⟨q, hq, rfl⟩ := List.mem_map.mp hp
  refine ⟨?_, hf _⟩
  rw [valV_dV, getA_mem nd (show (q.1, q.2) ∈ m from hq)]
  rfl
theorem c_Book_eq (T : Ty K mg CB CC CF) : Spc P w K mg base 1 CB "__eq__" (sp_Book_eq CB) := by
  refine spc_of T.s_Book___eq__ sc_p_Book___eq__ (fun _ _ _ _ _ _ us hl => match us, hl with | [_, _], _ => rfl) (fun vs H Q E h => ?_) (fun cdv A outer f s H vs Q E hr h => ?_)
  · obtain ⟨a, bk, rfl, _⟩ := h
    rfl
  · obtain ⟨a, bk, rfl, ⟨dx, d, p0, al, ac, lg, de, b⟩, q⟩ := h
    refine ⟨_, (pss_one (ps_ret (pe_and (pe_callB (cr_isC T.is_Book) (by rfl) T.n_isinstance (by decide +kernel) (pa_cons (pv 1) (pa_cons (pe_glob (v := .ref CB) (by rfl) T.g_Book rfl) pa_nil))) (pe_one (pe_cmpR (op_eq_dictA hr.units0) (pe_fldK (K := K) rfl (pv 0)) (pe_fldK (K := K) rfl (pv 1)) (nomark _)))))), ?_⟩
    refine ⟨_, rfl, a, dx, _, rfl, b.ha, _, rfl, ?_⟩
    exact ⟨_, rfl, _, _, _, _, _, rfl, b.ha, T.cl_Book, T.no_Book_own_prices, rfl, _, rfl, _, _, _, _, _, rfl, b.ha, T.cl_Book, T.no_Book_own_prices, rfl, d, d, dB bk, dB bk, rfl, rfl, b.hd, b.hd, rfl, dict_same b.g.nd (fun _ => rfl), q⟩
def sp_Cutter_eq (CB CC : Addr) : Sp := fun vs H Q _ => ∃ (a : Addr) (bk : Bk) (pl : Pl), vs = [.ref a, .ref a] ∧ CutH CB CC H a bk pl ∧ Q (.bl true) H
theorem c_Cutter_eq (T : Ty K mg CB CC CF) : Spc P w K mg base 3 CC "__eq__" (sp_Cutter_eq CB CC) := by
  refine spc_of T.s_Cutter___eq__ sc_p_Cutter___eq__ (fun _ _ _ _ _ _ us hl => match us, hl with | [_, _], _ => rfl) (fun vs H Q E h => ?_) (fun cdv A outer f s H vs Q E hr h => ?_)
  · obtain ⟨a, bk, pl, rfl, _⟩ := h
    rfl
  · obtain ⟨a, bk, pl, rfl, ⟨dx, ab, o, tb, en, sz, rw0, la, ns, c⟩, q⟩ := h
    refine ⟨_, (pss_cons (ps_if (pt_not (pt_val (pe_callB (cr_isC T.is_Cutter) (by rfl) T.n_isinstance (by decide +kernel) (pa_cons (pv 1) (pa_cons (pe_glob (v := .ref CC) (by rfl) T.g_Cutter rfl) pa_nil)))))
    (pss_one (ps_ret pe_bl))
    pss_nil)
  (pss_cons (ps_if (PW.pt (pw_or (pt_cmpR (op_neO (c_Book_eq T) T.ne_Book hr (by decide)) (pe_fldK (K := K) rfl (pv 0)) (pe_fldK (K := K) rfl (pv 1)) (nomark _)) (pw_or1 (pt_cmpR (op_neD hr.units) (pe_fldK (K := K) rfl (pv 0)) (pe_fldK (K := K) rfl (pv 1)) (nomark _)))))
    (pss_one (ps_ret pe_bl))
    pss_nil)
  (pss_one (ps_ret (pe_and (pe_cmpR op_eq (pe_fldK (K := K) rfl (pv 0)) (pe_fldK (K := K) rfl (pv 1)) (nomark _)) (pe_and (pe_cmpR (op_eq_dictA hr.units0) (pe_fldK (K := K) rfl (pv 0)) (pe_fldK (K := K) rfl (pv 1)) (nomark _)) (pe_one (pe_cmpR (op_eq_dictA hr.units0) (pe_fldK (K := K) rfl (pv 0)) (pe_fldK (K := K) rfl (pv 1)) (nomark _))))))))), ?_⟩
    have gp := c.gp
    have g := c.hb.g
    have hlt : ∀ t ∈ pl.order, Lt t := fun t ht => ov_lt g (pcs_ov g (gp.od.mem_iff.mp ht))
    obtain ⟨dxb, d, p0, al, ac, lg, de, b⟩ := c.hb
    refine ⟨_, rfl, a, dx, _, rfl, c.ha, _, rfl, ?_⟩
    refine ⟨_, rfl, _, _, _, _, _, rfl, c.ha, T.cl_Cutter, T.no_Cutter_own_book, rfl, _, rfl, _, _, _, _, _, rfl, c.ha, T.cl_Cutter, T.no_Cutter_own_book, rfl, ab, ab, dxb, dxb, _, _, rfl, rfl, b.ha, b.ha, ab, bk, rfl, c.hb, true, rfl, _, rfl, ?_⟩
    refine ⟨_, rfl, _, _, _, _, _, rfl, c.ha, T.cl_Cutter, T.no_Cutter_own_order, rfl, _, rfl, _, _, _, _, _, rfl, c.ha, T.cl_Cutter, T.no_Cutter_own_order, rfl, .tuple (dTx pl.order), .tuple (dTx pl.order), .tup (SqT.of c.ho) (texts_dp _), .tup (SqT.of c.ho) (texts_dp _), ?_, ?_, _, rfl, ?_⟩
    · exact shp_tup hlt
    · exact shp_tup hlt
    rw [eqv_same (lay_tup hlt)]
    refine ⟨_, rfl, _, _, _, _, _, rfl, c.ha, T.cl_Cutter, T.no_Cutter_own_view, rfl, _, rfl, _, _, _, _, _, rfl, c.ha, T.cl_Cutter, T.no_Cutter_own_view, rfl, rfl, _, rfl, ?_⟩
    refine iteT' (decide_eq_true rfl) ?_
    refine ⟨_, rfl, _, _, _, _, _, rfl, c.ha, T.cl_Cutter, T.no_Cutter_own_table, rfl, _, rfl, _, _, _, _, _, rfl, c.ha, T.cl_Cutter, T.no_Cutter_own_table, rfl, tb, tb, dV tv rw0, dV tv rw0, rfl, rfl, c.ht, c.ht, rfl, dict_same ((c.hpr.map _).nodup_iff.mpr gp.rw.nd) (fun _ => rfl), _, rfl, ?_⟩
    exact ⟨_, rfl, _, _, _, _, _, rfl, c.ha, T.cl_Cutter, T.no_Cutter_own_ends, rfl, _, rfl, _, _, _, _, _, rfl, c.ha, T.cl_Cutter, T.no_Cutter_own_ends, rfl, en, en, dV tv la, dV tv la, rfl, rfl, c.he, c.he, rfl, dict_same ((c.hpl.map _).nodup_iff.mpr gp.la.nd) (fun _ => rfl), q⟩
end
end K75
-- part L1
set_option Elab.async false
set_option linter.all false
set_option maxRecDepth 100000
set_option maxHeartbeats 4000000
namespace K75
open PySem PySem.Spec PyProof.Rows L2
section
variable {P : Program} {w : World} {K : PySem.W.Frag} {mg : Str → Option Value} {base : Heap} {CB CC CF : Addr}
theorem len_Cutter : ∀ (vs : List V) (H : Hp) (Q : VK) (E : XK), sp_Cutter CB CC vs H Q E → vs.length = (["self", "book", "order", "view", "table", "ends"] : List Str).length := by
  intro vs H Q E h
  obtain ⟨a, dx, b, o, vv, vt, ve, bk, pl, rfl, _⟩ := h
  rfl
/-- Cutter(book, order, view = .., table = .., ends = ..) -/
theorem mk_full (T : Ty K mg CB CC CF) : ∃ f fd, Mk K CC f ∧ FnOk P w K mg base CX0 6 f fd ["self", "book", "order", "view", "table", "ends"] (sp_Cutter CB CC) ∧ mg "Cutter" = some (.ref CC) ∧
    ∃ (g : List Value → List Value → List Value), KBn K fd ["self", "book", "order", "view", "table", "ends"] 3 ["view", "table", "ends"] g (fun vs zs => vs ++ zs) := by
  obtain ⟨f, fd, h1, F, h2⟩ := T.i_Cutter
  refine ⟨f, fd, h1, fnOk_of F sc_p_Cutter___init__ len_Cutter (b_Cutter T), h2, ?_⟩
  obtain ⟨mv, h⟩ := F.kbinds0 (ps := ["self", "book", "order", "view", "table", "ends"]) 3 ["view", "table", "ends"] [] (fun us _ ws => us ++ ws) (by simp) (fun q hq => by cases hq) (fun a _ c => a.append c) (fun D doc pm an cdv ct us mv ws l1 l2 l3 => by
    match us, mv, ws, l1, l2, l3 with
    | [x, y, z], [], [u, v, w], _, _, _ => exact (rfl : _ = _))
  exact ⟨_, h⟩
/-- Cutter(book, order, view = ..) -/
theorem mk_view (T : Ty K mg CB CC CF) : ∃ f fd, Mk K CC f ∧ FnOk P w K mg base CX0 6 f fd ["self", "book", "order", "view", "table", "ends"] (sp_Cutter CB CC) ∧ mg "Cutter" = some (.ref CC) ∧
    ∃ (g : List Value → List Value → List Value), KBn K fd ["self", "book", "order", "view", "table", "ends"] 3 ["view"] g (fun vs zs => vs ++ zs ++ [.non, .non]) := by
  obtain ⟨f, fd, h1, F, h2⟩ := T.i_Cutter
  refine ⟨f, fd, h1, fnOk_of F sc_p_Cutter___init__ len_Cutter (b_Cutter T), h2, ?_⟩
  obtain ⟨mv, h⟩ := F.kbinds0 (ps := ["self", "book", "order", "view", "table", "ends"]) 3 ["view"] [("table", .non), ("ends", .non)] (fun us mv ws => us ++ ws ++ mv) (by simp) (fun q hq => by
      simp only [List.mem_cons, List.not_mem_nil, or_false] at hq ⊢
      rcases hq with h | h <;> rw [h] <;> simp) (fun a b c => (a.append c).append b) (fun D doc pm an cdv ct us mv ws l1 l2 l3 => by
    match us, mv, ws, l1, l2, l3 with
    | [x, y, z], [u, v], [w], _, _, _ => exact ⟨_, _, _, _, _, _, rfl, rfl, _, _, _, _, _, _, rfl, rfl, rfl⟩)
  exact ⟨_, h⟩
/-- cls(book, order) -/
theorem mk_pos (T : Ty K mg CB CC CF) : C8.Mak P w K mg base 6 "Cutter" CC (sp_Cutter CB CC) [.non, .non, .non] := by
  obtain ⟨f, fd, h1, F, h2⟩ := T.i_Cutter
  obtain ⟨ds, hv, hb⟩ := F.binds0 (ps := ["self", "book", "order", "view", "table", "ends"]) 3 (by simp) rfl (fun D doc pm an cdv ct us ks l1 l2 => by
    match us, ks, l1, l2 with
    | [x, y, z], [u, v, w], _, _ => exact ⟨_, _, _, _, _, _, rfl, rfl, _, _, _, _, _, _, rfl, rfl, _, _, _, _, _, _, rfl, rfl, rfl⟩)
  exact ⟨f, fd, _, ds, h1, fnOk_of F sc_p_Cutter___init__ len_Cutter (b_Cutter T), h2, hb, hv⟩
end
end K75
-- part L7
set_option Elab.async false
set_option linter.all false
set_option maxRecDepth 100000
set_option maxHeartbeats 4000000
namespace K75
open PySem PySem.Spec PyProof.Rows L2
/-! a call of a class that a local holds -/
def tMakeL (i : Nat) (C : Addr) (sp : Sp) (dvs : List V) (E : XK) (t : TA) : TE := fun σ H Q => σ[i]? = some (some (.ref C)) ∧ tMake C sp dvs E t σ H Q
section
variable {X : Cx} {CX : CXT} {k i : Nat} {f C : Addr} {fd : FuncData} {ps : List Str} {sp : Sp} {dvs : List V} {ds : List Value} {E : XK} {x : Str} {p pos : Pos} {e : Expr} {es : List Expr} {t : TA}
theorem pe_makeL (M : Mk X.K C f) (F : FnOk X.prog X.w X.K X.mg X.base CX k f fd ps sp) (hr : Room (k + 1) X.A) (hN : X.N[i]? = some x) (hv : Vis X.env.scope x) (hb : Binds X.K fd ps ds) (hd : Vals dvs ds) (hx : Passes CX X E)
    (ha : PA X (e :: es) t) (hdb : (x == ("__debug__" : Str)) = false := by decide) (hcd : (x == ("__classdict__" : Str)) = false := by decide)
    (he : starEach (e :: es) X.env = (false, eval e X.env) :: starEach es X.env := by rfl) (hpl : (backTo pos (starEach es X.env)).any (·.1) = false := by rfl) :
    PE X (.Call (.Name x p) (e :: es) [] pos) (tMakeL i C sp dvs E t) := by
  refine ⟨fun pins s σ H Q I h => ?_⟩
  obtain ⟨hs, ht⟩ := h
  refine wpAny_Call_Name_kw (thn ((pe_var (pos := p) hN hv hdb hcd).run pins s σ H (fun v H1 => v = .ref C ∧ H1 = H) I ⟨.ref C, hs, rfl, rfl⟩) fun u s1 ⟨v, H1, I1, r1, q1⟩ => ?_)
  obtain ⟨rfl, rfl⟩ := q1
  cases r1
  refine PySem.W.callWith_K (h₀ := X.base) I1.ok.mod.kin M.kp (thn (ha.run pos pins s1 σ _ _ I1 ht) fun us s2 ⟨vs, H2, I2, r, q⟩ => ⟨I2.kIn, ?_⟩) he hpl
  exact run_make M F hr hb hd hx I2 r q
end
end K75
-- part L9
set_option Elab.async false
set_option linter.all false
set_option maxRecDepth 100000
set_option maxHeartbeats 4000000
namespace K75
open PySem PySem.Spec PyProof.Rows L2 PySem.W PySem.Calls
/-- sorted(a tuple, key = f) -/
theorem sorted_tup_key {β : Type} {R : Value → β → Prop} {prog : Program} {w : World} {A : Around} {E : Value → Shared → Prop} {s : Shared} {vs : List Value} {bs : List β} {a f : Addr} {o : Obj} {n : Nat} {Q : Value → Shared → Prop} (k : β → PyData)
    (ho : s.heap.get? a = some o) (hc : o.cls = .type "tuple") (hd : o.data = .seq vs.toArray n) (e : EachIs R vs bs) (hal : AllAlike (bs.map k)) (hk : Sortable (bs.map k)) (hL : bs.length ≤ sizeLine)
    (hu : ∀ x, x ∈ bs → A.units + 2 + (k x).depth < cLine)
    (turn : ∀ (v : Value) (x : β), R v x → x ∈ bs → ∀ (h : Heap) (tk : Nat), (∀ b o, s.heap.get? b = some o → h.get? b = some o) →
      wpAny (model prog w) A.in1.in1 (call (.ref f) [v]) (KeyPure (k x) { s with heap := h, toks := tk }) (fun _ _ => False) { s with heap := h, toks := tk })
    (h : ∀ out c h' tk (g0 : Heap), (∀ b o, s.heap.get? b = some o → g0.get? b = some o) → (∀ b o, g0.get? b = some o → h'.get? b = some o) → h'.get? g0.objs.size = some (seqObj "list" (List.toArray out) c) → out.length = bs.length → EachIs R out (bs.mergeSort (dataLe false k)) →
      Q (.ref g0.objs.size) { s with heap := h', toks := tk }) :
    wpAny (model prog w) A (call (.builtin "sorted") [.ref a] [(Str.ofString "key", .ref f)]) Q E s := by
  have hl := e.length
  refine call_function_entry_kw kind_sorted plain_sorted entry_sorted ?ha1 ?_
  case ha1 => exact ksk_s1 _ _
  unfold Builtin.«sorted»
  refine wpAny_bind (m := checkCount "sorted" 1 1 _) (wpAny_pure ?_)
  refine wpAny_bind (wpAny_collect_seq a (T := "tuple") (.inr rfl) ho hc hd (fun h' hk' => ?_) (by rw [List.size_toArray]; omega))
  have eits : vs.toArray.toList = vs := by simp
  refine wpAny_bind (wpAny_newList ?_ (by rw [eits]; omega))
  rw [eits]
  have hoL : (h'.push (seqObj "list" vs.toArray 0)).get? h'.objs.size = some (seqObj "list" vs.toArray 0) := Heap.get?_push_size _ rfl
  have up : ∀ {g : Heap}, KeepsBut h'.objs.size (h'.push (seqObj "list" vs.toArray 0)) g → ∀ b o, s.heap.get? b = some o → g.get? b = some o := fun {g} kp b o q =>
    kp b o (Nat.ne_of_lt (Heap.lt_size (hk' b o q))) (Heap.get?_push_of_some _ (hk' b o q))
  show wpAny _ _ _ _ _ { s with heap := h'.push (seqObj "list" vs.toArray 0) }
  refine wpAny_bind (wpAny_holding (wpAny_call_entry_kw slot_list_sort ⟨_, hoL, rfl⟩ entry_list_sort ?body ?ha2))
  case ha2 => exact ksk_l1 _ _
  case body =>
    show wpAny _ _ (ksk_tree h'.objs.size (.ref f) false) _ _ _
    refine keyH_tree (kz := bs.map k) (s := { s with heap := h'.push (seqObj "list" vs.toArray 0) }) hoL (by rw [List.length_map]; exact e.length.symm) (by rw [e.length]; exact hL) hal hk (bound_map (A := A.in1.in1) hu)
      (keyH_turns (s := { s with heap := h'.push (seqObj "list" vs.toArray 0) }) e fun v x hR hx g tk kp => turn v x hR hx g tk (up kp)) fun g tk out c kp hD ko => ?_
    refine ⟨_, rfl, ?_⟩
    exact wpAny_pure ⟨_, rfl, h out c g tk h' hk' (fun b o q => kp b o (Nat.ne_of_lt (Heap.lt_size q)) (Heap.get?_push_of_some _ q)) hD ((ko.length (by rw [List.length_map]; exact e.length.symm)).trans e.length) (keyedOut_each k ko e)⟩
end K75
-- part L10
set_option Elab.async false
set_option linter.all false
set_option maxRecDepth 100000
set_option maxHeartbeats 4000000
namespace K75
open PySem PySem.Spec PyProof.Rows L2 PySem.W PySem.Calls
/-! the order by -len -/
/-- the pieces, the longest first -/
def byLen (ps : List Tx0) : List Tx0 := ps.mergeSort fun a b => decide (b.length ≤ a.length)
def negLen (t : Tx0) : PyData := .int (-((t.length : Nat) : Int))
theorem le_negLen : dataLe false negLen = fun a b : Tx0 => decide (b.length ≤ a.length) := by
  have := dataLe_int (fun t : Tx0 => -((t.length : Nat) : Int))
  show dataLe false (fun t : Tx0 => .int (-((t.length : Nat) : Int))) = _
  rw [this]
  funext a b
  exact decide_eq_decide.mpr ⟨fun h => by omega, fun h => by omega⟩
theorem sort_negLen (ts : List Tx0) : ts.mergeSort (dataLe false negLen) = byLen ts := by
  rw [le_negLen]
  rfl
theorem alike_negLen (ts : List Tx0) : AllAlike (ts.map negLen) := fun d hd d' hd' => by
  obtain ⟨t, _, rfl⟩ := List.mem_map.mp hd
  obtain ⟨u, _, rfl⟩ := List.mem_map.mp hd'
  rfl
theorem sortable_negLen (ts : List Tx0) : Sortable (ts.map negLen) := .inr fun d hd => by
  obtain ⟨t, _, rfl⟩ := List.mem_map.mp hd
  refine ⟨fun h => ?_, fun xs h => ?_⟩
  · unfold negLen at h
    cases h
  · unfold negLen at h
    cases h
theorem depth_negLen (t : Tx0) : (negLen t).depth = 0 := by simp [negLen, PyData.depth]
def IsTx (v : Value) (t : Tx0) : Prop := ∃ k, v = .str (SX.S t) k
theorem each_tx {ts : List Tx0} : ∀ {vs : List Value}, Vals (ts.map tv) vs → EachIs IsTx vs ts := by
  induction ts with
  | nil =>
    intro vs h
    cases h
    exact .nil
  | cons t ts ih =>
    intro vs h
    rw [List.map_cons] at h
    cases h with
    | cons a b => exact .cons a (ih b)
theorem vals_tx {ts : List Tx0} {vs : List Value} (h : EachIs IsTx vs ts) : Vals (ts.map tv) vs := by
  induction h with
  | nil => exact .nil
  | cons a _ ih => exact .cons a ih
end K75
-- part L11
set_option Elab.async false
set_option linter.all false
set_option maxRecDepth 100000
set_option maxHeartbeats 4000000
namespace K75
open PySem PySem.Spec PyProof.Rows L2
/-- a lambda with parameters, called: its body by the rules in the context of a def -/
theorem run_lam {CX : CXT} {P : Program} {w : World} {K : PySem.W.Frag} {mg : Str → Option Value} {base : Heap} {k : Nat} {f c' : Addr} {name qual : Str} {params : Arguments} {body : Expr} {scope : Scope} {pm ctv : Value} {t : TE}
    {N ps : List Str} (S : FnScope N ps scope) {A : Around} {outer : List Env} {s : Shared} {H : Hp} {args : Args} {us : List Value} {vs : List V} {Q : VK} {E : XK}
    (hf : s.heap.get? f = some (PySem.W.kla_obj name qual params body scope [] pm c' ctv)) (hc : s.heap.CodeRec (.ref c') qual) (hr : Room (k + 1) A) (e0 : Env0 P w K mg base A outer s H)
    (hb : bindArgs (PySem.W.kla_fn name qual params body scope [] pm (.ref c') ctv) args = pure (ps.zip us)) (r : Vals vs us) (hl : vs.length = ps.length)
    (hbody : Room k (A.deeper (envOfC qual scope s.heap.objs.size f (.ref c'))) → PE (cxOf CX P w K mg base N qual scope f (.ref c') A outer s H E) body t ∧ t (L2.start N vs) H Q) :
    codeAny (model P w) A (.call (.ref f) args) (CR CX outer P w H s Q E) s := by
  have lim : s.heap.NoLimit := e0.mod.nolimit.keeps fun b o e => (e0.bs b o e).1
  have hkind : ∀ y ∈ ps.zip us, scope.names.lookup y.1 = some .local ∨ (scope.names.lookup y.1 = some .cell ∧ ((cellsFrom (s.heap.objs.size + 1) scope.names []).lookup y.1).isSome = true) := fun ⟨n, v⟩ hy => by
    rcases S.par n (List.of_mem_zip hy).1 with q | q
    · exact .inl q
    · exact .inr ⟨q, PySem.W.cellsFrom_some _ _ _ (.inl q)⟩
  refine PySem.W.kla_callFunE hr.depth hf rfl S.co S.gen rfl hc ?_
  rw [hb]
  refine wpAny_pure (wpAny_newFunctionEnv_cells S.kind hkind fun env he s1 x => ?_)
  subst he
  refine ⟨lim.keeps x.toInCall.keep, PySem.W.kla_codeExpr ?_⟩
  obtain ⟨ht, hq⟩ := hbody (hr.deeper _)
  have I : Inv (cxOf CX P w K mg base N qual scope f (.ref c') A outer s H E) [] (L2.start N vs) H s1 := inv_start S hr.hd e0 hl r x
  refine wpAny_mono (ht.run [] s1 (L2.start N vs) H _ I hq) (fun u s' hs => ?_) fun e s' hs => hs
  obtain ⟨v, H', J, rv, q⟩ := hs
  exact ⟨v, H', J.os, J.bare, J.base, J.hok, rv, q⟩
end K75
-- part L12
set_option Elab.async false
set_option linter.all false
set_option maxRecDepth 100000
set_option maxHeartbeats 4000000
namespace K75
open PySem PySem.Spec PyProof.Rows L2
/-- -len(piece): nothing but the count of made values changes -/
theorem body_len {X : Cx} {pins : List (Addr × Obj)} {σ : L2.St} {H : Hp} {s : Shared} {t : Tx0} {x : Str} {p1 p2 p3 p4 : Pos} {E : Value → Shared → Prop} {Q : Value → Shared → Prop} (I : Inv X pins σ H s) (hN : X.N[0]? = some x) (hv : X.env.scope.names.lookup x = some .local)
    (hs : σ[0]? = some (some (tv t))) (hg : Gl X "len") (hm : X.mg "len" = none) (hl : t.length ≤ sizeLine) (hd : (x == ("__debug__" : Str)) = false) (h : ∀ tk k, Q (.int (-((t.length : Nat) : Int)) k) { s with toks := tk }) :
    wpAny (model X.prog X.w) X.A (eval (.UnaryOp .USub (.Call (.Name "len" p1) [.Name x p2] [] p3) p4) X.env) Q E s := by
  have h1 := line63
  have h2 : sizeLine = 16777216 := sizeLine_eq
  refine UnaryOp_ ?_
  refine wpAny_Call_Name_kw (ld_blt I hg hm (u := .builtin "len") rfl ?_)
  refine PyProof.Rows.callWith_builtin1 (rest := []) (e := .Name x p2) ?_ rfl rfl
  obtain ⟨m, hn, hlk⟩ := I.loc
  obtain ⟨u, r, l⟩ := hlk 0 x (tv t) hN hs (.inl hv)
  obtain ⟨k, rfl⟩ := r
  rcases l with ⟨hk, hm2⟩ | ⟨hk, c, hc, hcell⟩
  · refine PyProof.Rows.args_cons (wpAny_Name (wpAny_loadName_local I.ok.kind hk hn hm2 (PyProof.Rows.args_nil ?_)) hd)
    refine len_str (by rw [SX.S_len]; omega) ?_
    rw [SX.S_len]
    exact neg_int (h _ _)
  · have hk : X.env.scope.names.lookup x = some NameKind.cell ∨ X.env.scope.names.lookup x = some NameKind.free := hk
    rw [hv] at hk
    rcases hk with hk | hk <;> cases hk
end K75
-- part L13
set_option Elab.async false
set_option linter.all false
set_option maxRecDepth 100000
set_option maxHeartbeats 4000000
namespace K75
open PySem PySem.Spec PyProof.Rows L2
theorem turn_len {P : Program} {w : World} {K : PySem.W.Frag} {mg : Str → Option Value} {base : Heap} {A : Around} {outer : List Env} {s : Shared} {H : Hp} {f c' : Addr} {name qual : Str} {params : Arguments} {scope : Scope} {pm ctv : Value} {x : Str} {N : List Str} {k : Nat} {t : Tx0} {tk : Tok} {p1 p2 p3 p4 : Pos}
    (S : FnScope N [x] scope) (hN : N[0]? = some x) (hv : scope.names.lookup x = some .local) (hlen : scope.names.lookup ("len" : Str) = some .globalImplicit) (hm : mg "len" = none) (hd : (x == ("__debug__" : Str)) = false)
    (hf : s.heap.get? f = some (PySem.W.kla_obj name qual params (.UnaryOp .USub (.Call (.Name "len" p1) [.Name x p2] [] p3) p4) scope [] pm c' ctv)) (hc : s.heap.CodeRec (.ref c') qual) (hr : Room (k + 1) A) (e0 : Env0 P w K mg base A outer s H)
    (hb : ∀ v, bindArgs (PySem.W.kla_fn name qual params (.UnaryOp .USub (.Call (.Name "len" p1) [.Name x p2] [] p3) p4) scope [] pm (.ref c') ctv) ⟨[v], []⟩ = pure [(x, v)]) (hl : t.length ≤ sizeLine) :
    wpAny (model P w) A (call (.ref f) [.str (SX.S t) tk]) (PySem.W.KeyPure (negLen t) s) (fun _ _ => False) s := by
  have lim : s.heap.NoLimit := e0.mod.nolimit.keeps fun b o e => (e0.bs b o e).1
  refine wpAny_call ?_
  refine PySem.W.kla_callFunE hr.depth hf rfl S.co S.gen rfl hc ?_
  rw [hb]
  have hkind : ∀ y ∈ [(x, Value.str (SX.S t) tk)], scope.names.lookup y.1 = some .local ∨ (scope.names.lookup y.1 = some .cell ∧ ((cellsFrom (s.heap.objs.size + 1) scope.names []).lookup y.1).isSome = true) := fun y hy => by
    rw [List.mem_singleton.mp hy]
    exact .inl hv
  refine wpAny_pure (wpAny_newFunctionEnv_cells S.kind hkind fun env he s1 xx => ?_)
  subst he
  refine ⟨lim.keeps xx.toInCall.keep, PySem.W.kla_codeExpr ?_⟩
  have I : Inv (cxOf CX0 P w K mg base N qual scope f (.ref c') A outer s H E0) [] (L2.start N [tv t]) H s1 := inv_start (us := [.str (SX.S t) tk]) (vs := [tv t]) S hr.hd e0 rfl (.cons ⟨tk, rfl⟩ .nil) xx
  refine body_len I hN hv (by cases N with | nil => cases hN | cons a l => rfl) hlen hm hl hd fun tk2 k2 => ?_
  obtain ⟨h1, tk1, rfl, hk⟩ := xx.done
  exact ⟨h1, tk2, rfl, hk, .int ..⟩
end K75
-- part L14
set_option Elab.async false
set_option linter.all false
set_option maxRecDepth 100000
set_option maxHeartbeats 4000000
namespace K75
open PySem PySem.Spec PyProof.Rows L2
theorem sorted_lam {X : Cx} {pins : List (Addr × Obj)} {σ : L2.St} {H : Hp} {s : Shared} {a f c' : Addr} {ts : List Tx0} {name qual : Str} {params : Arguments} {scope : Scope} {pm ctv : Value} {x : Str} {N : List Str} {k : Nat} {Q : VK} {p1 p2 p3 p4 : Pos}
    (I : Inv X pins σ H s) (hs : SqT X.K H a (ts.map tv)) (hz : ∀ t ∈ ts, t.length ≤ sizeLine) (S : FnScope N [x] scope) (hN : N[0]? = some x) (hv : scope.names.lookup x = some .local) (hlen : scope.names.lookup ("len" : Str) = some .globalImplicit) (hm : X.mg "len" = none) (hd : (x == ("__debug__" : Str)) = false)
    (hf : s.heap.get? f = some (PySem.W.kla_obj name qual params (.UnaryOp .USub (.Call (.Name "len" p1) [.Name x p2] [] p3) p4) scope [] pm c' ctv)) (hc : s.heap.CodeRec (.ref c') qual) (hr : Room (k + 1) X.A.in1.in1) (hu : X.A.units + 2 < cLine)
    (hb : ∀ v, bindArgs (PySem.W.kla_fn name qual params (.UnaryOp .USub (.Call (.Name "len" p1) [.Name x p2] [] p3) p4) scope [] pm (.ref c') ctv) ⟨[v], []⟩ = pure [(x, v)])
    (h : ∀ p, H p = none → Q (.ref p) (upd H p (.lst ((byLen ts).map tv)))) :
    wpAny (model X.prog X.w) X.A (call (.builtin "sorted") [.ref a] [(Str.ofString "key", .ref f)]) (EP X pins σ Q) X.xe s := by
  obtain ⟨its, rv, ⟨o, ho, hcl, n, hdt⟩, hzz⟩ := I.tuple hs
  rw [List.length_map] at hzz
  refine sorted_tup_key (R := IsTx) negLen ho hcl hdt (each_tx rv) (alike_negLen ts) (sortable_negLen ts) hzz (fun y _ => by rw [depth_negLen]; exact hu) (fun v y ⟨tk0, e⟩ hy g tk hk => ?_) fun out c g tk g0 hk hk2 hat hl ho2 => ?_
  · subst e
    have I2 : Inv X pins σ H { s with heap := g, toks := tk } := I.kept (t' := tk) hk
    obtain ⟨cc, oc, vs, tq, e1, e2, e3, e4⟩ := hc
    exact turn_len (s := { s with heap := g, toks := tk }) S hN hv hlen hm hd (hk _ _ hf) ⟨cc, oc, vs, tq, e1, hk _ _ e2, e3, e4⟩ hr I2.env0.in1.in1 hb (hz y hy)
  · rw [sort_negLen] at ho2
    have hlt : ((byLen ts).map tv).length ≤ sizeLine := by
      rw [List.length_map, show (byLen ts).length = ts.length from (List.mergeSort_perm ts _).length_eq]
      exact hzz
    have I1 : Inv X pins σ H { s with heap := g0 } := I.kept (t' := s.toks) hk
    exact ⟨.ref g0.objs.size, upd H g0.objs.size (.lst ((byLen ts).map tv)), I1.laid (t' := tk) hk2 (Nat.le_refl _) (show ObjOk X.prog X.w _ _ _ (.lst ((byLen ts).map tv)) from ⟨hlt, out, c, vals_tx ho2, hat⟩), rfl, h _ (I1.hok.fresh (Nat.le_refl _))⟩
end K75
-- part L15
set_option Elab.async false
set_option linter.all false
set_option maxRecDepth 100000
set_option maxHeartbeats 4000000
namespace K75
open PySem PySem.Spec PyProof.Rows L2
/-- sorted(e, key = lambda x: -len(x)), e a tuple of texts -/
def tSortLam (K : PySem.W.Frag) (PT : Addr) (te : TE) : TE := fun σ H Q => te σ H fun v H1 => ∃ (a : Addr) (ts : List Tx0), v = .ref a ∧ SqT K H1 a (ts.map tv) ∧ (∀ t ∈ ts, t.length ≤ sizeLine) ∧ H1 PT = some (.tbl #[]) ∧
  ∀ (H2 : Hp) (p : Addr), LamX.ExtN H1 H2 → H2 p = none → Q (.ref p) (upd H2 p (.lst ((byLen ts).map tv)))
end K75
-- part L16
set_option Elab.async false
set_option linter.all false
set_option maxRecDepth 100000
set_option maxHeartbeats 4000000
namespace K75
open PySem PySem.Spec PyProof.Rows L2
theorem pe_sortedLam {X : Cx} {c PT : Addr} {params : Arguments} {scope : Scope} {x : Str} {N : List Str} {k : Nat} {e : Expr} {te : TE} {p p1 p2 p3 p4 lpos kpos pos : Pos}
    (TB : LamX.TabB X.base X.mg c PT) (hcode : X.env.code = .ref c) (hdef : defaultsOf params X.env = ([], [])) (hfree : ∀ y ∈ scope.names, y.2 ≠ .free) (hcl : cloFrom X.env.cells scope.names [] = []) (hg : Gl X "sorted") (hms : X.mg "sorted" = none)
    (S : FnScope N [x] scope) (hN : N[0]? = some x) (hv : scope.names.lookup x = some .local) (hlen : scope.names.lookup ("len" : Str) = some .globalImplicit) (hm : X.mg "len" = none) (hd : (x == ("__debug__" : Str)) = false) (hr : Room (k + 1) X.A.in1.in1) (hu : X.A.units + 2 < cLine)
    (hb : ∀ (pm ctv : Value) (c' : Addr) (v : Value), bindArgs (PySem.W.kla_fn "<lambda>" (X.env.qual ++ "<lambda>") params (.UnaryOp .USub (.Call (.Name "len" p1) [.Name x p2] [] p3) p4) scope [] pm (.ref c') ctv) ⟨[v], []⟩ = pure [(x, v)])
    (ha : PE X e te)
    (he0 : starEach [e] X.env = (false, eval e X.env) :: starEach [] X.env := by rfl)
    (he : backTo pos (starEach [e] X.env) = (false, eval e X.env) :: backTo pos (starEach [] X.env) := by rfl) (hpl : (backTo pos (starEach [e] X.env)).any (·.1) = false := by rfl) :
    PE X (.Call (.Name "sorted" p) [e] [⟨some "key", .Lambda params (.UnaryOp .USub (.Call (.Name "len" p1) [.Name x p2] [] p3) p4) scope lpos, kpos⟩] pos) (tSortLam X.K PT te) := by
  refine ⟨fun pins s σ H Q I h => ?_⟩
  refine wpAny_Call_Name_kw (ld_blt I hg hms (u := .builtin "sorted") rfl ?_)
  refine PyProof.Rows.callWith_kw (PyProof.Rows.args_cons (thn (ha.run pins s σ H _ I h) fun u s1 ⟨v, H1, I1, r1, a, ts, e1, hs, hz, hPT, q⟩ => PyProof.Rows.args_nil ?_) he0) he hpl rfl rfl
  subst e1
  cases r1
  show wpAny _ _ (evalAll ((do let v ← eval (.Lambda params (.UnaryOp .USub (.Call (.Name "len" p1) [.Name x p2] [] p3) p4) scope lpos) X.env; standAt pos; pure v) :: [])) _ _ s1
  refine wpAny_evalAll_cons (wpAny_bind (LamX.lam_make2 (T := [(PT, X.env.qual ++ "<lambda>")]) I1 TB hcode (by simp) (by simp) (fun y hy => by rw [List.mem_singleton.mp hy]; exact LamX.TabS.nil hPT) hdef (fun y hy ef => absurd ef (hfree y hy)) fun f c' pm ctv H2 s2 I2 ext tabs hf hfn hfr hco => wpAny_bind (wpAny_standAt (wpAny_pure (wpAny_evalAll_nil ?_)))))
  rw [hcl] at hf
  obtain ⟨⟨oc, vs, tq, hoc, hdc, hvc⟩, _, _⟩ := I2.hok c' _ hco
  have hs2 : SqT X.K H2 a (ts.map tv) := hs.elim (fun h => .inl (h.elim (fun h => .inl (ext _ _ h (fun _ z => by cases z))) fun ⟨o, h⟩ => .inr ⟨o, ext _ _ h (fun _ z => by cases z)⟩)) fun h => .inr h
  exact sorted_lam I2 hs2 hz S hN hv hlen hm hd hf ⟨c', oc, vs, tq, rfl, hoc, hdc, hvc⟩ hr hu (hb pm ctv c') fun p hp => q H2 p ext hp
end K75
-- part S1
set_option Elab.async false
set_option linter.all false
set_option maxRecDepth 100000
set_option maxHeartbeats 4000000
namespace K75
open PySem PySem.Spec PyProof.Rows L2
/-! a list, or a text as its signs -/
def SeqV (K : PySem.W.Frag) (H : Hp) (x : V) (xs : List V) : Prop := (∃ t : Tx0, x = tv t ∧ xs = t.map sg ∧ t.length ≤ 1000) ∨ ∃ p, x = .ref p ∧ SqL K H p xs
theorem SeqV.upd {K : PySem.W.Frag} {H : Hp} {x : V} {xs : List V} {r : Addr} {o : HO} (h : SeqV K H x xs) (n : x ≠ .ref r) : SeqV K (L2.upd H r o) x xs := by
  rcases h with h | ⟨p, rfl, h⟩
  · exact .inl h
  · exact .inr ⟨p, rfl, sqL_upd h fun e => n (by rw [e])⟩
section
variable {X : Cx}
theorem cr_lenU : CallR X (.builtin "len") (fun ys H Q => ∃ x xs, ys = [x] ∧ SeqV X.K H x xs ∧ Q (.int xs.length) H) := by
  intro pins s σ H ys us Q I r h
  have h3 : sizeLine = 16777216 := sizeLine_eq
  obtain ⟨x, xs, rfl, hx, q⟩ := h
  rcases hx with ⟨t, rfl, rfl, hl⟩ | ⟨p, rfl, hs⟩
  · rw [List.length_map] at q
    exact call_lenT pins s σ H _ us Q I r ⟨t, rfl, by omega, q⟩
  · exact call_len_seq pins s σ H _ us Q I r ⟨p, xs, rfl, .inl hs, q⟩
theorem cr_listU (hc : X.calm = true) : CallR X (.type "list") (fun ys H Q => ∃ x xs, ys = [x] ∧ SeqV X.K H x xs ∧ ∀ l, H l = none → Q (.ref l) (upd H l (.lst xs))) := by
  intro pins s σ H ys us Q I r h
  have h3 : sizeLine = 16777216 := sizeLine_eq
  obtain ⟨x, xs, rfl, hx, q⟩ := h
  rcases hx with ⟨t, rfl, rfl, hl⟩ | ⟨p, rfl, hs⟩
  · exact cr_listStr hc pins s σ H _ us Q I r ⟨t, rfl, by omega, q⟩
  · exact call_list_of pins s σ H _ us Q I r ⟨p, xs, rfl, .inl hs, q⟩
theorem atI_sg {t : Tx0} {i : Int} {v : V} (h : atI (t.map sg) i = some v) : ∃ c, atI (SX.S t).cps.toList i = some c ∧ v = sg c := by
  have e : (SX.S t).cps.toList = t := by simp [SX.S]
  rw [e]
  unfold atI at h ⊢
  rw [List.length_map] at h
  cases q : ixN t.length i with
  | none => rw [q] at h; cases h
  | some j =>
    rw [q] at h
    have h : (t.map sg)[j]? = some v := h
    rw [List.getElem?_map] at h
    obtain ⟨c, hc, rfl⟩ := Option.map_eq_some_iff.mp h
    exact ⟨c, hc, rfl⟩
theorem ix_U {K : PySem.W.Frag} (hK : X.K = K) : IxR X (fun x y H Q => ∃ xs i v, y = .int i ∧ SeqV K H x xs ∧ atI xs i = some v ∧ Q v H) := by
  subst hK
  intro value slice pins s σ H x y v u Q I rx ry h hs
  have h3 : sizeLine = 16777216 := sizeLine_eq
  obtain ⟨xs, i, z, rfl, hx, ha, q⟩ := h
  rcases hx with ⟨t, rfl, rfl, hl⟩ | ⟨p, rfl, hp⟩
  · obtain ⟨c, hc, rfl⟩ := atI_sg ha
    exact ix_str value slice pins s σ H _ _ v u Q I rx ry ⟨SX.S t, i, c, rfl, rfl, by rw [SX.S_len]; omega, hc, q⟩ hs
  · exact ix_list value slice pins s σ H _ _ v u Q I rx ry ⟨p, xs, i, z, rfl, rfl, hp, ha, q⟩ hs
end
section
variable {P : Program} {w : World} {K : PySem.W.Frag} {mg : Str → Option Value} {base : Heap} {CB CC CF : Addr}
/-! ### one of the items -/
def sp_pick (K : PySem.W.Frag) : Sp := fun vs H Q _ => ∃ (r : Addr) (x : V) (xs : List V), vs = [.ref r, x] ∧ Reel H r ∧ SeqV K H x xs ∧ x ≠ .ref r ∧ xs ≠ [] ∧ xs.length ≤ 1000 ∧
  ∀ (y : V) (a b c : Int), y ∈ xs → Q y (upd H r (.lst [.int a, .int b, .int c]))
theorem c_pick (T : Tx K mg CB CC CF) : C8.Cal P w K mg base 2 "_law_pick" (sp_pick K) [] := by
  refine cal_of T.d_pick sc_pick (fun _ _ _ _ _ _ us hl => match us, hl with | [_, _], _ => rfl) (fun vs H Q E h => ?_) (fun cdv A outer f s H vs Q E hr h => ?_)
  · obtain ⟨r, n, i, rfl, _⟩ := h
    rfl
  · obtain ⟨r, x, xs, rfl, hR, L, ne, hx, hl, k⟩ := h
    have hp : 0 < xs.length := List.length_pos_iff.mpr hx
    refine ⟨_, (pss_one (ps_ret (pe_ix (ix_U (K := K) rfl) (pv 1) (C8.pe_c (c_spin T) hr (by decide) (by rfl) (pa_cons (pv 0) (pa_cons (pe_callB cr_lenU (by rfl) T.n_len (by decide +kernel) (pa_cons (pv 1) pa_nil)) pa_nil))) (fun _ _ => rfl)))), ?_⟩
    refine ⟨_, rfl, _, rfl, _, rfl, _, _, rfl, L, _, _, rfl, hR, by omega, by omega, fun v a b c h0 h1 => ?_⟩
    obtain ⟨j, rfl⟩ : ∃ j : Nat, v = j := ⟨v.toNat, by omega⟩
    have hj : j < xs.length := by omega
    exact ⟨_, _, xs[j], rfl, L.upd ne, atI_nat (by simp [hj]), k _ _ _ _ (List.getElem_mem hj)⟩
/-! ### some of the items -/
def sp_some (K : PySem.W.Frag) : Sp := fun vs H Q _ => ∃ (r : Addr) (x : V) (ts : List Tx0) (n : Nat), vs = [.ref r, x, .int n] ∧ Reel H r ∧ SeqV K H x (ts.map tv) ∧ ts.length ≤ 1000 ∧ n ≤ 1000 ∧
  ∀ (q : Addr) (fs ls : List Tx0) (H' : Hp), H q = none → (fs ++ ls).Perm ts → fs.length = min n ts.length → Kp [r] H H' → Reel H' r → H' q = some (.lst (fs.map tv)) → Q (.ref q) H'
theorem c_some (T : Tx K mg CB CC CF) : C8.Cal P w K mg base 2 "_law_some" (sp_some K) [] := by
  refine cal_of T.d_some sc_some (fun _ _ _ _ _ _ us hl => match us, hl with | [_, _, _], _ => rfl) (fun vs H Q E h => ?_) (fun cdv A outer f s H vs Q E hr h => ?_)
  · obtain ⟨r, x, ts, n, rfl, _⟩ := h
    rfl
  · obtain ⟨r, x, ts, n, rfl, hR, L, hts, hn, k⟩ := h
    have h3 : sizeLine = 16777216 := sizeLine_eq
    refine ⟨_, (pss_cons (ps_par (i := 3) (j := 4) (by rfl) sc_some.nd rfl rfl (by decide) rfl rfl (pa_cons (pe_callTy (cr_listU rfl) (by rfl) T.n_list (by decide +kernel) (pa_cons (pv 1) pa_nil)) (pa_cons (pe_lst pa_nil) pa_nil)) (by rfl))
  (pss_cons (ps_for PassesOwn.never rfl (pi_range1 (by rfl) T.n_range (pa_cons (pe_callB (call_min2 rfl) (by rfl) T.n_min (by decide +kernel) (pa_cons (pv 2) (pa_cons (pe_callB call_len_seq (by rfl) T.n_len (by decide +kernel) (pa_cons (pv 3) pa_nil)) pa_nil))) pa_nil)) (pg_name (i := 5) sc_some.nd rfl (Or.inl rfl))
    (pss_one (ps_expr (pe_bm PySem.F.plainAttrs_list PySem.F.slot_list_append PySem.F.type_list_append mt_append (pv 4) (pa_cons (pe_bm PySem.F.plainAttrs_list PySem.F.slot_list_pop PySem.F.type_list_pop mt_popAt (pv 3) (pa_cons (C8.pe_c (c_spin T) hr (by decide) (by rfl) (pa_cons (pv 0) (pa_cons (pe_callB call_len_seq (by rfl) T.n_len (by decide +kernel) (pa_cons (pv 3) pa_nil)) pa_nil))) pa_nil)) pa_nil)))))
  (pss_one (ps_ret (pv 4))))), ?_⟩
    refine ⟨_, rfl, x, ts.map tv, rfl, L, fun l hl0 => ⟨by show 0 ≤ sizeLine; decide, fun q hq0 => ⟨_, _, rfl, ?_⟩⟩⟩
    have nrl : r ≠ l := hR.ne hl0
    have nql : q ≠ l := by
      rintro rfl
      rw [upd_same] at hq0; cases hq0
    rw [upd_ne nql] at hq0
    have nrq : r ≠ q := hR.ne hq0
    have hl1 : upd (upd H l (.lst (ts.map tv))) q (.lst []) l = some (.lst (ts.map tv)) := by rw [upd_ne nql.symm, upd_same]
    refine ⟨_, rfl, _, rfl, l, _, rfl, .inl (SqL.of hl1), _, _, rfl, ?_⟩
    have em : (if (((ts.map tv).length : Nat) : Int) < ((n : Nat) : Int) then (((ts.map tv).length : Nat) : Int) else ((n : Nat) : Int)) = ((min n ts.length : Nat) : Int) := by
      rw [List.length_map]
      split <;> omega
    rw [em]
    refine ⟨((min n ts.length : Nat) : Int), rfl, by omega, by omega, ?_⟩
    rw [Int.toNat_natCast]
    refine for_range (n := min n ts.length) (fun i σ H' => ∃ (fs ls : List Tx0) (y : Option V), σ = [some (.ref r), some x, some (.int (n : Int)), some (.ref l), some (.ref q), y] ∧ fs.length = i ∧ (fs ++ ls).Perm ts ∧ Kp [r] H H' ∧ Reel H' r ∧ H' l = some (.lst (ls.map tv)) ∧ H' q = some (.lst (fs.map tv)))
      ⟨[], ts, none, rfl, rfl, List.Perm.refl _, ((kp_refl H).up (.inl hl0)).up (.inl hq0), reel_upd (reel_upd hR nrl) nrq, hl1, upd_same⟩ ?_ ?_
    · rintro i σ H1 hi ⟨fs, ls, y, rfl, hfl, hp, hk, hR1, hl1, hq1⟩
      have hlen : fs.length + ls.length = ts.length := by rw [← List.length_append]; exact hp.length_eq
      have hll : (ls.map tv).length = ls.length := List.length_map ..
      refine ⟨_, rfl, .inl ⟨rfl, _, SqL.of hq1⟩, _, rfl, .inl ⟨rfl, _, SqL.of hl1⟩, _, rfl, _, rfl, _, _, rfl, .inl (SqL.of hl1), r, ((ls.map tv).length : Int), rfl, hR1, by omega, by omega, fun v a b c h0 h1 => ?_⟩
      obtain ⟨j, rfl⟩ : ∃ j : Nat, v = j := ⟨v.toNat, by omega⟩
      have hj : j < ls.length := by omega
      generalize hH2 : upd H1 r (.lst [.int a, .int b, .int c]) = H2
      have hl3 : H2 l = some (.lst (ls.map tv)) := by rw [← hH2, upd_ne nrl.symm]; exact hl1
      have hq3 : H2 q = some (.lst (fs.map tv)) := by rw [← hH2, upd_ne nrq.symm]; exact hq1
      refine ⟨l, ls.map tv, (j : Int), j, tv ls[j], rfl, rfl, hl3, by omega, by omega, seq_ix (by omega), by simp [hj], ?_⟩
      refine ⟨q, fs.map tv, tv ls[j], rfl, rfl, by rw [upd_ne nql]; exact hq3, ?_, ?_⟩
      · rw [List.length_map]
        omega
      refine ⟨fs ++ [ls[j]], ls.eraseIdx j, _, rfl, by rw [List.length_append, hfl] <;> rfl, ?_, ?_, ?_, ?_, ?_⟩
      · refine List.Perm.trans ?_ hp
        rw [List.append_assoc]
        exact List.Perm.append_left fs (perm_erase hj)
      · refine Kp.up (Kp.up ?_ (.inl hl0)) (.inl hq0)
        rw [← hH2]
        exact hk.up (.inr (by simp))
      · refine reel_upd (reel_upd ?_ nrl) nrq
        rw [← hH2]
        exact reel_same a b c
      · rw [upd_ne nql.symm, upd_same, erase_map]
      · rw [upd_same, List.map_append]
        rfl
    · rintro σ H1 ⟨fs, ls, y, rfl, hfl, hp, hk, hR1, hl1, hq1⟩
      exact ⟨_, rfl, k q fs ls H1 hq0 hp hfl hk hR1 hq1⟩
/-! ### a drawn text -/
def sp_text (K : PySem.W.Frag) : Sp := fun vs H Q _ => ∃ (r : Addr) (x : V) (cs : Tx0) (n : Nat), vs = [.ref r, x, .int n] ∧ Reel H r ∧ (x = tv cs ∨ ∃ p, x = .ref p ∧ H p = some (.lst (cs.map sg))) ∧ x ≠ .ref r ∧ (cs ≠ [] ∨ n = 0) ∧ cs.length ≤ 1000 ∧ n ≤ 1000 ∧
  ∀ (t : Tx0) (H' : Hp), t.length = n → (∀ c ∈ t, c ∈ cs) → Kp [r] H H' → Reel H' r → Q (tv t) H'
theorem c_text (T : Tx K mg CB CC CF) : C8.Cal P w K mg base 3 "_law_text" (sp_text K) [] := by
  refine cal_of T.d_text sc_text (fun _ _ _ _ _ _ us hl => match us, hl with | [_, _, _], _ => rfl) (fun vs H Q E h => ?_) (fun cdv A outer f s H vs Q E hr h => ?_)
  · obtain ⟨r, p, cs, n, rfl, _⟩ := h
    rfl
  · obtain ⟨r, x, cs, n, rfl, hR, L, nxr, hc, hcl, hn, k⟩ := h
    refine ⟨_, (pss_one (ps_ret (pe_join pe_str (pe_lc (own := [("at", 3)]) (g := gName 3) rfl sc_text.nd (pi_range1 (by rfl) T.n_range (pa_cons (pv 2) pa_nil)) (blkOk_by (own := [("at", 3)]) (N := N_text) (sc := (defScope s_text)) (by decide +kernel)) (fun _ _ _ _ _ => (pg_name (i := 3) sc_text.nd rfl (Or.inl rfl))) (fun _ _ _ _ _ => pts_nil) (fun _ _ _ _ _ => (C8.pe_c (c_pick T) hr (by decide) (by rfl) (pa_cons (pv 0) (pa_cons (pv 1) pa_nil)))))))), ?_⟩
    refine ⟨⟨_, rfl⟩, _, rfl, n, rfl, by omega, by omega, fun D hD => ?_⟩
    have nrD : r ≠ D := hR.ne hD
    have LK : ∀ {H1 : Hp} {u : HO} {d : Addr}, (x = tv cs ∨ ∃ p, x = .ref p ∧ H1 p = some (.lst (cs.map sg))) → (∀ p, x = .ref p → p ≠ d) → (x = tv cs ∨ ∃ p, x = .ref p ∧ upd H1 d u p = some (.lst (cs.map sg))) := fun {H1 u d} h nd => by
      rcases h with h | ⟨p, e, h⟩
      · exact .inl h
      · exact .inr ⟨p, e, by rw [upd_ne (nd p e)]; exact h⟩
    have nD : ∀ p, x = .ref p → p ≠ D := fun p e z => by
      rcases L with h | ⟨p', e', h⟩
      · rw [h] at e; cases e
      · rw [e] at e'
        cases e'
        rw [z, hD] at h
        cases h
    have nR : ∀ p, x = .ref p → p ≠ r := fun p e z => nxr (by rw [e, z])
    refine lc_range (lo := 0) (n := n) (fun i H' => ∃ t : Tx0, t.length = i ∧ (∀ c ∈ t, c ∈ cs) ∧ Kp [r] H H' ∧ Reel H' r ∧ (x = tv cs ∨ ∃ p, x = .ref p ∧ H' p = some (.lst (cs.map sg))) ∧ H' D = some (.lst (t.map sg)))
      ⟨[], rfl, (fun _ h => by cases h), (kp_refl H).up (.inl hD), reel_upd hR nrD, LK L nD, upd_same⟩ ?_ ?_
    · rintro i H1 hi ⟨t, htl, htc, hk, hR1, L1, hD1⟩
      have hcs : cs ≠ [] := hc.elim id fun e => by omega
      have SV : SeqV K H1 x (cs.map sg) := by
        rcases L1 with h | ⟨p, e, h⟩
        · exact .inl ⟨cs, h, rfl, hcl⟩
        · exact .inr ⟨p, e, SqL.of h⟩
      refine ⟨rfl, _, rfl, _, rfl, r, x, cs.map sg, rfl, hR1, SV, nxr, by simpa using hcs, by simpa using hcl, fun y a b c hx => ?_⟩
      obtain ⟨d, hd, rfl⟩ := List.mem_map.mp hx
      refine ⟨t.map sg, by rw [upd_ne nrD.symm]; exact hD1, ?_, t ++ [d], by rw [List.length_append, htl] <;> rfl, ?_, ?_, ?_, ?_, ?_⟩
      · have h3 : sizeLine = 16777216 := sizeLine_eq
        rw [List.length_map]
        omega
      · intro e he
        rcases List.mem_append.mp he with h | h
        · exact htc e h
        · rw [List.mem_singleton.mp h]; exact hd
      · exact (hk.up (.inr (by simp))).up (.inl hD)
      · exact reel_upd (reel_same a b c) nrD
      · exact LK (LK L1 nR) nD
      · rw [upd_same, List.map_append]
        rfl
    · rintro H1 ⟨t, htl, htc, hk, hR1, L1, hD1⟩
      refine ⟨SX.S [], D, (t.map fun c => [c]).map SX.S, rfl, rfl, .inl (SqL.of ?_), ?_, ?_⟩
      · rw [hD1, List.map_map, List.map_map]
        rfl
      · rw [SX.lens, SX.S_len, len_sg]
        show t.length + _ * 0 ≤ 16777216
        omega
      · rw [join_sg]
        exact k t H1 htl htc hk hR1
end
end K75
-- part S2
set_option Elab.async false
set_option linter.all false
set_option maxRecDepth 100000
set_option maxHeartbeats 4000000
namespace K75
open PySem PySem.Spec PyProof.Rows L2
theorem single_ex {l : List Tx0} (h : ∀ t ∈ l, ∃ c, t = [c]) : ∃ cs : Tx0, l = cs.map fun c => [c] := by
  induction l with
  | nil => exact ⟨[], rfl⟩
  | cons t l ih =>
    obtain ⟨cs, rfl⟩ := ih fun t ht => h t (List.mem_cons_of_mem _ ht)
    obtain ⟨c, rfl⟩ := h t (List.mem_cons_self ..)
    exact ⟨c :: cs, rfl⟩
theorem nd_single {cs : Tx0} (h : (cs.map fun c => [c]).Nodup) : cs.Nodup := by
  rw [List.Nodup, List.pairwise_map] at h
  exact h.imp fun {a b} n e => n (by rw [e])
theorem paired_snoc {α γ : Type} {F : α → γ → Prop} {ps : List α} {ks : List γ} (h : Paired F ps ks) {p : α} {c : γ} (hp : F p c) : Paired F (ps ++ [p]) (ks ++ [c]) := by
  induction h with
  | nil => exact .cons hp .nil
  | cons h1 h2 ih => exact .cons h1 ih
section
variable {P : Program} {w : World} {K : PySem.W.Frag} {mg : Str → Option Value} {base : Heap} {CB CC CF : Addr}
/-! ### different letters -/
def sp_signs : Sp := fun vs H Q _ => ∃ (r : Addr) (n : Nat), vs = [.ref r, .int n] ∧ Reel H r ∧ n ≤ 26 ∧
  ∀ (q : Addr) (cs : Tx0) (H' : Hp), H q = none → cs.length = n → cs.Nodup → Lt cs → Kp [r] H H' → Reel H' r → H' q = some (.lst (cs.map sg)) → Q (.ref q) H'
theorem c_signs (T : Tx K mg CB CC CF) : C8.Cal P w K mg base 3 "_law_signs" sp_signs [] := by
  refine cal_of T.d_signs sc_signs (fun _ _ _ _ _ _ us hl => match us, hl with | [_, _], _ => rfl) (fun vs H Q E h => ?_) (fun cdv A outer f s H vs Q E hr h => ?_)
  · obtain ⟨r, n, rfl, _⟩ := h
    rfl
  · obtain ⟨r, n, rfl, hR, hn, k⟩ := h
    refine ⟨_, (pss_one (ps_ret (pe_callB cr_sortedS (by rfl) T.n_sorted (by decide +kernel) (pa_cons (C8.pe_c (c_some T) hr (by decide) (by rfl) (pa_cons (pv 0) (pa_cons pe_str (pa_cons (pv 1) pa_nil)))) pa_nil)))), ?_⟩
    refine ⟨_, rfl, _, rfl, r, tv abc, abc.map (fun c => [c]), n, rfl, hR, .inl ⟨abc, rfl, by rw [List.map_map]; rfl, by decide⟩, by decide, by omega, fun q fs ls H1 hq0 hp hl hk hR1 hq1 => ?_⟩
    have hl2 : fs.length = n := by
      rw [hl, List.length_map]
      show min n 26 = n
      omega
    refine ⟨q, fs.map SX.S, rfl, SqL.of (by rw [hq1, List.map_map]; rfl), by rw [List.length_map]; omega, fun ys q2 hys hso hq20 => ?_⟩
    obtain ⟨l, rfl, hl3, _⟩ := perm_S hys hso
    have one : ∀ t ∈ l, ∃ c, t = [c] ∧ 97 ≤ c ∧ c ≤ 122 := fun t ht => by
      have h1 := hp.mem_iff.mp (List.mem_append_left ls (hl3.mem_iff.mp ht))
      obtain ⟨c, hc, rfl⟩ := List.mem_map.mp h1
      exact ⟨c, rfl, abc_lt c hc⟩
    obtain ⟨cs, rfl⟩ := single_ex fun t ht => (one t ht).imp fun _ h => h.1
    have nd : (cs.map fun c => [c]).Nodup := by
      refine hl3.nodup_iff.mpr ?_
      have : (fs ++ ls).Nodup := hp.nodup_iff.mpr (by decide)
      exact (List.nodup_append.mp this).1
    have hq2H : H q2 = none := hk.free hq20 (by simpa using (hR1.ne hq20).symm)
    refine k q2 cs _ hq2H ?_ (nd_single nd) (fun c hc => ?_) (hk.up (.inl hq2H)) (reel_upd hR1 (hR1.ne hq20)) ?_
    · have := hl3.length_eq
      rw [List.length_map] at this
      omega
    · obtain ⟨d, e, h⟩ := one [c] (List.mem_map_of_mem (f := fun c => [c]) hc)
      cases e
      exact h
    · rw [upd_same, List.map_map, List.map_map]
      rfl
/-! ### a drawn book -/
def sp_prices : Sp := fun vs H Q _ => ∃ (r l : Addr) (cs : Tx0) (lots : Nat) (top : Int), vs = [.ref r, .ref l, .int lots, .int 4, .int top] ∧ Reel H r ∧ H l = some (.lst (cs.map sg)) ∧ cs ≠ [] ∧ cs.length ≤ 3 ∧ cs.Nodup ∧ Lt cs ∧ lots ≤ 4 ∧ 1 ≤ top ∧ top ≤ 99 ∧
  ∀ (d : Addr) (bk : Bk) (H' : Hp), H d = none → GoodBook bk → Kp [r] H H' → Reel H' r → H' d = some (.dK (dB bk)) → Q (.ref d) H'
theorem c_prices (T : Tx K mg CB CC CF) : C8.Cal P w K mg base 4 "_law_prices" sp_prices [] := by
  refine cal_of T.d_prices sc_prices (fun _ _ _ _ _ _ us hl => match us, hl with | [_, _, _, _, _], _ => rfl) (fun vs H Q E h => ?_) (fun cdv A outer f s H vs Q E hr h => ?_)
  · obtain ⟨r, l, cs, lots, top, rfl, _⟩ := h
    rfl
  · obtain ⟨r, l, cs, lots, top, rfl, hR, hl, hne, hcl, hnd, hlt, hlots, ht1, ht2, k⟩ := h
    have h3 : sizeLine = 16777216 := sizeLine_eq
    refine ⟨_, (pss_cons (ps_set (i := 5) sc_prices.nd rfl (Or.inl rfl) (pe_callTy (call_dictP rfl) (by rfl) T.n_dict (by decide +kernel) (pa_cons (pe_lc (own := [("sign", 8)]) (g := gName 8) rfl sc_prices.nd (pi_list (pv 1)) (blkOk_by (own := [("sign", 8)]) (N := N_prices) (sc := (defScope s_prices)) (by decide +kernel)) (fun _ _ _ _ _ => (pg_name (i := 8) sc_prices.nd rfl (Or.inl rfl))) (fun _ _ _ _ _ => pts_nil) (fun _ _ _ _ _ => (pe_tup (pa_cons (pv 8) (pa_cons (pe_op op_add pe_int (C8.pe_c (c_spin T) hr (by decide) (by rfl) (pa_cons (pv 0) (pa_cons (pv 4) pa_nil)))) pa_nil))))) pa_nil)))
  (pss_cons (ps_for PassesOwn.never rfl (pi_range1 (by rfl) T.n_range (pa_cons (pv 2) pa_nil)) (pg_name (i := 6) sc_prices.nd rfl (Or.inl rfl))
    (pss_cons (ps_set (i := 7) sc_prices.nd rfl (Or.inl rfl) (C8.pe_c (c_text T) hr (by decide) (by rfl) (pa_cons (pv 0) (pa_cons (pv 1) (pa_cons (pe_op op_add pe_int (C8.pe_c (c_spin T) hr (by decide) (by rfl) (pa_cons (pv 0) (pa_cons (pe_op op_sub (pv 3) pe_int) pa_nil)))) pa_nil)))))
    (pss_one (ps_dput (hu1 hr) (pv 5) (pv 7) (pe_op op_add pe_int (C8.pe_c (c_spin T) hr (by decide) (by rfl) (pa_cons (pv 0) (pa_cons (pv 4) pa_nil)))) rfl))))
  (pss_one (ps_ret (pv 5))))), ?_⟩
    have nrl : r ≠ l := by
      rintro rfl
      obtain ⟨a, b, c, e⟩ := hR
      rw [hl] at e
      cases cs with
      | nil => exact hne rfl
      | cons x y => cases e
    refine ⟨_, rfl, l, rfl, ⟨_, SqL.of hl⟩, fun D hD => ?_⟩
    have nrD := hR.ne hD
    have nlD := ne_of_none hl hD
    refine lc_list (fun i H' => ∃ (ps : List Addr) (bk : Bk), ps.length = i ∧ Paired (fun p (kv : Key × V) => H' p = some (.tup [kV kv.1, kv.2])) ps (dB bk) ∧ bk.map (·.1) = (cs.take i).map (fun c => [c]) ∧ (∀ p ∈ bk, 1 ≤ p.2 ∧ p.2 ≤ 99) ∧ Kp [r] H H' ∧ Reel H' r ∧ H' l = some (.lst (cs.map sg)) ∧ H' D = some (.lst (ps.map V.ref)))
      ⟨[], [], rfl, .nil, rfl, (fun _ h => by cases h), (kp_refl H).up (.inl hD), reel_upd hR nrD, by rw [upd_ne nlD]; exact hl, upd_same⟩ (fun i H' _ ⟨ps, bk, _, _, _, _, _, _, h, _⟩ => SqL.of h) ?_ ?_
    · rintro i x H1 hx ⟨ps, bk, hpl, hpp, hkeys, hpr, hk, hR1, hl1, hD1⟩
      obtain ⟨c0, hc0, rfl⟩ : ∃ c0, cs[i]? = some c0 ∧ x = sg c0 := by
        rw [List.getElem?_map] at hx
        obtain ⟨c0, h1, h2⟩ := Option.map_eq_some_iff.mp hx
        exact ⟨c0, h1, h2.symm⟩
      refine ⟨rfl, _, rfl, _, rfl, _, rfl, r, top, rfl, hR1, by omega, by omega, fun v a b c h0 h1 => ⟨_, _, rfl, rfl, by show 2 ≤ sizeLine; omega, fun p hp => ?_⟩⟩
      have npr : p ≠ r := by
        rintro rfl
        rw [upd_same] at hp
        cases hp
      have hp1 : H1 p = none := by rw [upd_ne npr] at hp; exact hp
      have nDr := nrD.symm
      have nDp := ne_of_none hD1 hp1
      refine ⟨ps.map V.ref, by rw [upd_ne nDp, upd_ne nDr]; exact hD1, by rw [List.length_map]; have := (List.getElem?_eq_some_iff.mp hc0).1; omega, ps ++ [p], bk ++ [([c0], 1 + v)], by rw [List.length_append, hpl]; rfl, ?_, ?_, ?_, ?_, ?_, ?_, ?_⟩
      · have step : ∀ {q : Addr} {xs : List V}, H1 q = some (.tup xs) → upd (upd (upd H1 r (.lst [.int a, .int b, .int c])) p (.tup [sg c0, .int (1 + v)])) D (.lst (ps.map V.ref ++ [.ref p])) q = some (.tup xs) := fun {q xs} hq => by
          have n1 : q ≠ r := by
            rintro rfl
            obtain ⟨x, y, z, e⟩ := hR1
            rw [hq] at e
            cases e
          have n2 : q ≠ p := ne_of_none hq hp1
          have n3 : q ≠ D := by
            rintro rfl
            rw [hq] at hD1
            cases hD1
          rw [upd_ne n3, upd_ne n2, upd_ne n1]
          exact hq
        have e1 : dB (bk ++ [([c0], 1 + v)]) = dB bk ++ [(kx [c0], .int (1 + v))] := by
          unfold dB dV
          rw [List.map_append]
          rfl
        rw [e1]
        refine paired_snoc (paired_weak hpp fun q kv _ h => step h) ?_
        rw [upd_ne nDp.symm, upd_same]
        rfl
      · rw [List.map_append, hkeys, List.take_add_one, hc0, List.map_append]
        rfl
      · intro p hp
        rcases List.mem_append.mp hp with h | h
        · exact hpr p h
        · rw [List.mem_singleton.mp h]
          show 1 ≤ 1 + v ∧ 1 + v ≤ 99
          omega
      · exact ((hk.up (.inr (by simp))).up (.inl (hk.free hp1 (by simpa using npr)))).up (.inl hD)
      · exact reel_upd (reel_upd (reel_same a b c) npr.symm) nrD
      · rw [upd_ne nlD, upd_ne (ne_of_none hl1 hp1), upd_ne nrl.symm]
        exact hl1
      · rw [upd_same, List.map_append]
        rfl
    · rintro H1 ⟨ps, bk, hpl, hpp, hkeys, hpr, hk, hR1, hl1, hD1⟩
      rw [List.length_map, List.take_length] at hkeys
      refine ⟨D, ps, dB bk, rfl, SqL.of hD1, paired_weak hpp fun p kv _ h => SqT.of h, fun d hd => ?_⟩
      have ndk : (bk.map (·.1)).Nodup := by
        rw [hkeys, List.Nodup, List.pairwise_map]
        exact hnd.imp fun {a b} n e => n (List.cons.inj e).1
      rw [merge_self V.int ndk]
      have hd0 : H d = none := hk.free hd (by simpa using (hR1.ne hd).symm)
      have hbl : bk.length = cs.length := by
        have := congrArg List.length hkeys
        rw [List.length_map, List.length_map] at this
        exact this
      have hk2 := hk.up (o := .dK (dB bk)) (.inl hd0)
      have hR2 : Reel (upd H1 d (.dK (dB bk))) r := reel_upd hR1 (hR1.ne hd)
      have hl2 : upd H1 d (.dK (dB bk)) l = some (.lst (cs.map sg)) := by rw [upd_ne (ne_of_none hl1 hd)]; exact hl1
      have hd2 : upd H1 d (.dK (dB bk)) d = some (.dK (dB bk)) := upd_same
      have nrd := hR1.ne hd
      have nld := ne_of_none hl1 hd
      generalize upd H1 d (.dK (dB bk)) = H2 at hk2 hR2 hl2 hd2
      have G0 : GB cs bk := ⟨ndk, fun p hp => by
        have h1 : p.1 ∈ cs.map fun c => [c] := by
          rw [← hkeys]
          exact List.mem_map_of_mem hp
        obtain ⟨c, hc, e⟩ := List.mem_map.mp h1
        rw [← e]
        exact ⟨by simp, by simp, by simpa using hc, hpr p hp⟩⟩
      have F0 : ∀ c ∈ cs, [c] ∈ bk.map (·.1) := fun c hc => by
        rw [hkeys]
        exact List.mem_map_of_mem hc
      refine ⟨_, rfl, (lots : Int), rfl, by omega, by omega, ?_⟩
      rw [Int.toNat_natCast]
      refine for_range (n := lots) (fun i σ H' => ∃ (bk : Bk) (x6 x7 x8 : Option V), σ = [some (.ref r), some (.ref l), some (.int lots), some (.int 4), some (.int top), some (.ref d), x6, x7, x8] ∧ Kp [r] H H' ∧ Reel H' r ∧ H' l = some (.lst (cs.map sg)) ∧ H' d = some (.dK (dB bk)) ∧ GB cs bk ∧ bk.length ≤ 3 + i ∧ ∀ c ∈ cs, [c] ∈ bk.map (·.1))
        ⟨bk, _, _, _, rfl, hk2, hR2, hl2, hd2, G0, by omega, F0⟩ ?_ ?_
      · rintro i σ H3 hi ⟨bk, x6, x7, x8, rfl, hk3, hR3, hl3, hd3, G, hbl, F⟩
        refine ⟨_, rfl, _, rfl, _, rfl, _, rfl, _, _, rfl, rfl, r, (4 - 1), rfl, hR3, by omega, by omega, fun v a b c h0 h1 => ?_⟩
        obtain ⟨m, rfl⟩ : ∃ m : Nat, v = m := ⟨v.toNat, by omega⟩
        refine ⟨_, _, rfl, rfl, r, .ref l, cs, 2 + m, by simp, reel_same a b c, .inr ⟨l, rfl, by rw [upd_ne nrl.symm]; exact hl3⟩, fun e => nrl (by cases e; rfl), .inl hne, by omega, by omega, fun t H4 htl htc hk4 hR4 => ?_⟩
        have hk34 : Kp [r] H3 H4 := ((kp_refl H3).up (.inr (by simp))).trans hk4
        have hl4 := hk34 _ _ hl3 (by simpa using nrl.symm)
        have hd4 := hk34 _ _ hd3 (by simpa using nrd.symm)
        refine ⟨_, rfl, _, rfl, r, top, rfl, hR4, by omega, by omega, fun v a2 b2 c2 h0 h1 => ⟨_, _, rfl, rfl, _, rfl, _, rfl, d, _, rfl, dput_A (f := V.int) (by rw [upd_ne nrd.symm]; exact hd4) (by omega) t (1 + v), putA bk t (1 + v), _, _, _, rfl, ?_, ?_, ?_, upd_same, G.put (by omega) (by omega) htc (by omega) (by omega), ?_, fun c hc => mem_keys_putA.mpr (.inr (F c hc))⟩⟩
        · exact ((hk3.trans hk34).up (.inr (by simp))).up (.inl hd0)
        · exact reel_upd (reel_same a2 b2 c2) nrd
        · rw [upd_ne nld, upd_ne nrl.symm]
          exact hl4
        · have := (len_putA bk t (1 + v)).2
          omega
      · rintro σ H3 ⟨bk, x6, x7, x8, rfl, hk3, hR3, hl3, hd3, G, hbl, F⟩
        exact ⟨_, rfl, k d bk H3 hd0 (G.good hne (by omega) hlt F (by omega)) hk3 hR3 hd3⟩
end
end K75
-- part S3
set_option Elab.async false
set_option linter.all false
set_option maxRecDepth 100000
set_option maxHeartbeats 4000000
namespace K75
open PySem PySem.Spec PyProof.Rows L2 PySem.W PySem.Calls
/-- sorted(a list, key = f) -/
theorem sorted_lst_key {β : Type} {R : Value → β → Prop} {prog : Program} {w : World} {A : Around} {E : Value → Shared → Prop} {s : Shared} {vs : List Value} {bs : List β} {a f : Addr} {o : Obj} {n : Nat} {Q : Value → Shared → Prop} (k : β → PyData)
    (ho : s.heap.get? a = some o) (hc : o.cls = .type "list") (hd : o.data = .seq vs.toArray n) (e : EachIs R vs bs) (hal : AllAlike (bs.map k)) (hk : Sortable (bs.map k)) (hL : bs.length ≤ sizeLine)
    (hu : ∀ x, x ∈ bs → A.units + 2 + (k x).depth < cLine)
    (turn : ∀ (v : Value) (x : β), R v x → x ∈ bs → ∀ (h : Heap) (tk : Nat), (∀ b o, s.heap.get? b = some o → h.get? b = some o) →
      wpAny (model prog w) A.in1.in1 (call (.ref f) [v]) (KeyPure (k x) { s with heap := h, toks := tk }) (fun _ _ => False) { s with heap := h, toks := tk })
    (h : ∀ out c h' tk (g0 : Heap), (∀ b o, s.heap.get? b = some o → g0.get? b = some o) → (∀ b o, g0.get? b = some o → h'.get? b = some o) → h'.get? g0.objs.size = some (seqObj "list" (List.toArray out) c) → out.length = bs.length → EachIs R out (bs.mergeSort (dataLe false k)) →
      Q (.ref g0.objs.size) { s with heap := h', toks := tk }) :
    wpAny (model prog w) A (call (.builtin "sorted") [.ref a] [(Str.ofString "key", .ref f)]) Q E s := by
  have hl := e.length
  refine call_function_entry_kw kind_sorted plain_sorted entry_sorted ?ha1 ?_
  case ha1 => exact ksk_s1 _ _
  unfold Builtin.«sorted»
  refine wpAny_bind (m := checkCount "sorted" 1 1 _) (wpAny_pure ?_)
  refine wpAny_bind (wpAny_collect_seq a (T := "list") (.inl rfl) ho hc hd (fun h' hk' => ?_) (by rw [List.size_toArray]; omega))
  have eits : vs.toArray.toList = vs := by simp
  refine wpAny_bind (wpAny_newList ?_ (by rw [eits]; omega))
  rw [eits]
  have hoL : (h'.push (seqObj "list" vs.toArray 0)).get? h'.objs.size = some (seqObj "list" vs.toArray 0) := Heap.get?_push_size _ rfl
  have up : ∀ {g : Heap}, KeepsBut h'.objs.size (h'.push (seqObj "list" vs.toArray 0)) g → ∀ b o, s.heap.get? b = some o → g.get? b = some o := fun {g} kp b o q =>
    kp b o (Nat.ne_of_lt (Heap.lt_size (hk' b o q))) (Heap.get?_push_of_some _ (hk' b o q))
  show wpAny _ _ _ _ _ { s with heap := h'.push (seqObj "list" vs.toArray 0) }
  refine wpAny_bind (wpAny_holding (wpAny_call_entry_kw slot_list_sort ⟨_, hoL, rfl⟩ entry_list_sort ?body ?ha2))
  case ha2 => exact ksk_l1 _ _
  case body =>
    show wpAny _ _ (ksk_tree h'.objs.size (.ref f) false) _ _ _
    refine keyH_tree (kz := bs.map k) (s := { s with heap := h'.push (seqObj "list" vs.toArray 0) }) hoL (by rw [List.length_map]; exact e.length.symm) (by rw [e.length]; exact hL) hal hk (bound_map (A := A.in1.in1) hu)
      (keyH_turns (s := { s with heap := h'.push (seqObj "list" vs.toArray 0) }) e fun v x hR hx g tk kp => turn v x hR hx g tk (up kp)) fun g tk out c kp hD ko => ?_
    refine ⟨_, rfl, ?_⟩
    exact wpAny_pure ⟨_, rfl, h out c g tk h' hk' (fun b o q => kp b o (Nat.ne_of_lt (Heap.lt_size q)) (Heap.get?_push_of_some _ q)) hD ((ko.length (by rw [List.length_map]; exact e.length.symm)).trans e.length) (keyedOut_each k ko e)⟩
end K75
namespace K75
open PySem PySem.Spec PyProof.Rows L2
theorem sortedL_lam {X : Cx} {pins : List (Addr × Obj)} {σ : L2.St} {H : Hp} {s : Shared} {a f c' : Addr} {ts : List Tx0} {name qual : Str} {params : Arguments} {scope : Scope} {pm ctv : Value} {x : Str} {N : List Str} {k : Nat} {Q : VK} {p1 p2 p3 p4 : Pos}
    (I : Inv X pins σ H s) (hs : SqL X.K H a (ts.map tv)) (hz : ∀ t ∈ ts, t.length ≤ sizeLine) (S : FnScope N [x] scope) (hN : N[0]? = some x) (hv : scope.names.lookup x = some .local) (hlen : scope.names.lookup ("len" : Str) = some .globalImplicit) (hm : X.mg "len" = none) (hd : (x == ("__debug__" : Str)) = false)
    (hf : s.heap.get? f = some (PySem.W.kla_obj name qual params (.UnaryOp .USub (.Call (.Name "len" p1) [.Name x p2] [] p3) p4) scope [] pm c' ctv)) (hc : s.heap.CodeRec (.ref c') qual) (hr : Room (k + 1) X.A.in1.in1) (hu : X.A.units + 2 < cLine)
    (hb : ∀ v, bindArgs (PySem.W.kla_fn name qual params (.UnaryOp .USub (.Call (.Name "len" p1) [.Name x p2] [] p3) p4) scope [] pm (.ref c') ctv) ⟨[v], []⟩ = pure [(x, v)])
    (h : ∀ p, H p = none → Q (.ref p) (upd H p (.lst ((byLen ts).map tv)))) :
    wpAny (model X.prog X.w) X.A (call (.builtin "sorted") [.ref a] [(Str.ofString "key", .ref f)]) (EP X pins σ Q) X.xe s := by
  obtain ⟨its, rv, ⟨o, n, ho, hcl, _, hdt⟩, hzz⟩ := I.list hs
  rw [List.length_map] at hzz
  refine sorted_lst_key (R := IsTx) negLen ho hcl hdt (each_tx rv) (alike_negLen ts) (sortable_negLen ts) hzz (fun y _ => by rw [depth_negLen]; exact hu) (fun v y ⟨tk0, e⟩ hy g tk hk => ?_) fun out c g tk g0 hk hk2 hat hl ho2 => ?_
  · subst e
    have I2 : Inv X pins σ H { s with heap := g, toks := tk } := I.kept (t' := tk) hk
    obtain ⟨cc, oc, vs, tq, e1, e2, e3, e4⟩ := hc
    exact turn_len (s := { s with heap := g, toks := tk }) S hN hv hlen hm hd (hk _ _ hf) ⟨cc, oc, vs, tq, e1, hk _ _ e2, e3, e4⟩ hr I2.env0.in1.in1 hb (hz y hy)
  · rw [sort_negLen] at ho2
    have hlt : ((byLen ts).map tv).length ≤ sizeLine := by
      rw [List.length_map, show (byLen ts).length = ts.length from (List.mergeSort_perm ts _).length_eq]
      exact hzz
    have I1 : Inv X pins σ H { s with heap := g0 } := I.kept (t' := s.toks) hk
    exact ⟨.ref g0.objs.size, upd H g0.objs.size (.lst ((byLen ts).map tv)), I1.laid (t' := tk) hk2 (Nat.le_refl _) (show ObjOk X.prog X.w _ _ _ (.lst ((byLen ts).map tv)) from ⟨hlt, out, c, vals_tx ho2, hat⟩), rfl, h _ (I1.hok.fresh (Nat.le_refl _))⟩
/-- sorted(e, key = lambda x: -len(x)), e a list of texts; T: tables, each with its one name -/
def tSortLamL (K : PySem.W.Frag) (T : List (Addr × Str)) (te : TE) : TE := fun σ H Q => te σ H fun v H1 => ∃ (a : Addr) (ts : List Tx0), v = .ref a ∧ SqL K H1 a (ts.map tv) ∧ (∀ t ∈ ts, t.length ≤ sizeLine) ∧ LamX.Tabs T H1 ∧
  ∀ (H2 : Hp) (p : Addr), LamX.ExtN H1 H2 → LamX.Tabs T H2 → H2 p = none → Q (.ref p) (upd H2 p (.lst ((byLen ts).map tv)))
theorem pe_sortedLamL {X : Cx} {T : List (Addr × Str)} {c PT : Addr} {params : Arguments} {scope : Scope} {x : Str} {N : List Str} {k : Nat} {e : Expr} {te : TE} {p p1 p2 p3 p4 lpos kpos pos : Pos}
    (TB : LamX.TabB X.base X.mg c PT) (hcode : X.env.code = .ref c) (hm0 : (PT, X.env.qual ++ "<lambda>") ∈ T) (hu0 : ∀ p ∈ T, p.1 = PT → p.2 = X.env.qual ++ "<lambda>") (hdef : defaultsOf params X.env = ([], [])) (hfree : ∀ y ∈ scope.names, y.2 ≠ .free) (hcl : cloFrom X.env.cells scope.names [] = []) (hg : Gl X "sorted") (hms : X.mg "sorted" = none)
    (S : FnScope N [x] scope) (hN : N[0]? = some x) (hv : scope.names.lookup x = some .local) (hlen : scope.names.lookup ("len" : Str) = some .globalImplicit) (hm : X.mg "len" = none) (hd : (x == ("__debug__" : Str)) = false) (hr : Room (k + 1) X.A.in1.in1) (hu : X.A.units + 2 < cLine)
    (hb : ∀ (pm ctv : Value) (c' : Addr) (v : Value), bindArgs (PySem.W.kla_fn "<lambda>" (X.env.qual ++ "<lambda>") params (.UnaryOp .USub (.Call (.Name "len" p1) [.Name x p2] [] p3) p4) scope [] pm (.ref c') ctv) ⟨[v], []⟩ = pure [(x, v)])
    (ha : PE X e te)
    (he0 : starEach [e] X.env = (false, eval e X.env) :: starEach [] X.env := by rfl)
    (he : backTo pos (starEach [e] X.env) = (false, eval e X.env) :: backTo pos (starEach [] X.env) := by rfl) (hpl : (backTo pos (starEach [e] X.env)).any (·.1) = false := by rfl) :
    PE X (.Call (.Name "sorted" p) [e] [⟨some "key", .Lambda params (.UnaryOp .USub (.Call (.Name "len" p1) [.Name x p2] [] p3) p4) scope lpos, kpos⟩] pos) (tSortLamL X.K T te) := by
  refine ⟨fun pins s σ H Q I h => ?_⟩
  refine wpAny_Call_Name_kw (ld_blt I hg hms (u := .builtin "sorted") rfl ?_)
  refine PyProof.Rows.callWith_kw (PyProof.Rows.args_cons (thn (ha.run pins s σ H _ I h) fun u s1 ⟨v, H1, I1, r1, a, ts, e1, hs, hz, hPT, q⟩ => PyProof.Rows.args_nil ?_) he0) he hpl rfl rfl
  subst e1
  cases r1
  show wpAny _ _ (evalAll ((do let v ← eval (.Lambda params (.UnaryOp .USub (.Call (.Name "len" p1) [.Name x p2] [] p3) p4) scope lpos) X.env; standAt pos; pure v) :: [])) _ _ s1
  refine wpAny_evalAll_cons (wpAny_bind (LamX.lam_make2 (T := T) I1 TB hcode hm0 hu0 hPT hdef (fun y hy ef => absurd ef (hfree y hy)) fun f c' pm ctv H2 s2 I2 ext tabs hf hfn hfr hco => wpAny_bind (wpAny_standAt (wpAny_pure (wpAny_evalAll_nil ?_)))))
  rw [hcl] at hf
  obtain ⟨⟨oc, vs, tq, hoc, hdc, hvc⟩, _, _⟩ := I2.hok c' _ hco
  have hs2 : SqL X.K H2 a (ts.map tv) := hs.elim (fun h => .inl (h.elim (fun h => .inl (ext _ _ h (fun _ z => by cases z))) fun ⟨o, h⟩ => .inr ⟨o, ext _ _ h (fun _ z => by cases z)⟩)) fun h => .inr h
  exact sortedL_lam I2 hs2 hz S hN hv hlen hm hd hf ⟨c', oc, vs, tq, rfl, hoc, hdc, hvc⟩ hr hu (hb pm ctv c') fun p hp => q H2 p ext tabs hp
/-! what is kept, but for tables -/
def KpN (D : List Addr) (H H' : Hp) : Prop := ∀ b o, H b = some o → b ∉ D → (∀ ps, o ≠ .tbl ps) → H' b = some o
theorem Kp.n {D : List Addr} {H H' : Hp} (k : Kp D H H') : KpN D H H' := fun b o e n _ => k b o e n
theorem kpn_ext {H H' : Hp} (e : LamX.ExtN H H') (D : List Addr) : KpN D H H' := fun b o h _ n => e b o h n
theorem KpN.trans {D : List Addr} {H H1 H2 : Hp} (a : KpN D H H1) (b : KpN D H1 H2) : KpN D H H2 := fun x o h n t => b x o (a x o h n t) n t
theorem tabs_kp {T : List (Addr × Str)} {D : List Addr} {H H' : Hp} (t : LamX.Tabs T H) (k : Kp D H H') (hD : ∀ x ∈ D, ∀ o, H x = some o → (∀ ps, o ≠ .tbl ps) ∧ ∀ c q, o ≠ LamX.CodeO c q) : LamX.Tabs T H' := fun p hp => by
  obtain ⟨ps, h1, h2, h3⟩ := t p hp
  refine ⟨ps, k _ _ h1 fun m => (hD _ m _ h1).1 ps rfl, h2, fun pos cv hc => ?_⟩
  obtain ⟨c, e1, e2⟩ := h3 pos cv hc
  exact ⟨c, e1, k _ _ e2 fun m => (hD _ m _ e2).2 _ _ rfl⟩
theorem tabs_lst {T : List (Addr × Str)} {D : List Addr} {H H' : Hp} (t : LamX.Tabs T H) (k : Kp D H H') (hD : ∀ x ∈ D, ∃ xs, H x = some (.lst xs)) : LamX.Tabs T H' := tabs_kp t k fun x hx o e => by
  obtain ⟨xs, h⟩ := hD x hx
  rw [h] at e
  cases e
  refine ⟨(fun ps z => by cases z), fun c q z => ?_⟩
  unfold LamX.CodeO at z
  cases z
theorem reel_lst {H : Hp} {r : Addr} (h : Reel H r) : ∀ x ∈ [r], ∃ xs, H x = some (.lst xs) := fun x hx => by
  rw [List.mem_singleton.mp hx]
  obtain ⟨a, b, c, e⟩ := h
  exact ⟨_, e⟩
end K75
-- part S4
set_option Elab.async false
set_option linter.all false
set_option maxRecDepth 100000
set_option maxHeartbeats 4000000
namespace K75
open PySem PySem.Spec PyProof.Rows L2
theorem good_nil (bk : Bk) (n : Nat) : GoodTb bk n [] := ⟨List.nodup_nil, Nat.zero_le _, (fun _ h => by cases h), (fun _ h => by cases h), (fun _ h => by cases h), (fun _ h => by cases h)⟩
theorem book_signs {bk : Bk} (g : GoodBook bk) {l : List Tx0} (h : l.Perm (pcs bk)) : ∃ cs : Tx0, l.filter (fun t => decide (t.length = 1)) = cs.map (fun c => [c]) ∧ (∀ c, c ∈ cs ↔ [c] ∈ pcs bk) ∧ cs ≠ [] ∧ cs.length ≤ 12 := by
  obtain ⟨cs, e⟩ := single_ex (l := l.filter fun t => decide (t.length = 1)) fun t ht => one_of_len (of_decide_eq_true (List.mem_filter.mp ht).2)
  have hm : ∀ c, c ∈ cs ↔ [c] ∈ pcs bk := fun c => by
    have h4 : c ∈ cs ↔ [c] ∈ cs.map fun c => [c] := by simp
    rw [h4, ← e, List.mem_filter, h.mem_iff]
    exact ⟨fun z => z.1, fun z => ⟨z, rfl⟩⟩
  refine ⟨cs, e, hm, ?_, ?_⟩
  · rintro rfl
    have h1 := g.ne
    obtain ⟨p, hp⟩ := List.exists_mem_of_length_pos (show 0 < bk.length by omega)
    have hl := (g.ln p hp).1
    obtain ⟨c, t, et⟩ := List.exists_cons_of_ne_nil (show p.1 ≠ [] from fun z => by rw [z] at hl; simp at hl)
    have := (hm c).mpr (g.sg p hp c (by rw [et]; exact List.mem_cons_self ..))
    cases this
  · have h1 := congrArg List.length e
    rw [List.length_map] at h1
    have h2 := List.length_filter_le (fun t : Tx0 => decide (t.length = 1)) l
    have h3 := h.length_eq
    rw [List.length_map] at h3
    have := g.le
    omega
/-- the plain dict of a cutter -/
structure PlanH (H : Hp) (q d o tb en : Addr) (bk : Bk) (pl : Pl) : Prop where
  hq : H q = some (.dK [(.inr "prices", .ref d), (.inr "order", .ref o), (.inr "view", .int pl.span), (.inr "table", .ref tb), (.inr "ends", .ref en)])
  hd : H d = some (.dK (dB bk))
  ho : H o = some (.tup (pl.order.map tv))
  ht : H tb = some (.dK (dV tv pl.rows))
  he : H en = some (.dK (dV tv pl.last))
section
variable {H H' : Hp} {q d o tb en : Addr} {bk : Bk} {pl : Pl}
theorem PlanH.kp0 (h : PlanH H q d o tb en bk pl) (k : Kp [] H H') : PlanH H' q d o tb en bk pl :=
  ⟨k _ _ h.hq (by simp), k _ _ h.hd (by simp), k _ _ h.ho (by simp), k _ _ h.ht (by simp), k _ _ h.he (by simp)⟩
theorem PlanH.kp {CF : Addr} {D : List Addr} (h : PlanH H q d o tb en bk pl) (k : Kp D H H') (v : VolAt CF H D) : PlanH H' q d o tb en bk pl :=
  ⟨k.vol v h.hq nv_dK, k.vol v h.hd nv_dK, k.vol v h.ho nv_tup, k.vol v h.ht nv_dK, k.vol v h.he nv_dK⟩
theorem PlanH.g_prices (h : PlanH H q d o tb en bk pl) : DGet H q (.str "prices") (some (.ref d)) := .inl ⟨_, .inr "prices", .inl h.hq, rfl, rfl⟩
theorem PlanH.g_order (h : PlanH H q d o tb en bk pl) : DGet H q (.str "order") (some (.ref o)) := .inl ⟨_, .inr "order", .inl h.hq, rfl, rfl⟩
theorem PlanH.g_view (h : PlanH H q d o tb en bk pl) : DGet H q (.str "view") (some (.int pl.span)) := .inl ⟨_, .inr "view", .inl h.hq, rfl, rfl⟩
theorem PlanH.g_table (h : PlanH H q d o tb en bk pl) : DGet H q (.str "table") (some (.ref tb)) := .inl ⟨_, .inr "table", .inl h.hq, rfl, rfl⟩
theorem PlanH.g_ends (h : PlanH H q d o tb en bk pl) : DGet H q (.str "ends") (some (.ref en)) := .inl ⟨_, .inr "ends", .inl h.hq, rfl, rfl⟩
end
/-- heaps while a plan is filled -/
structure PB (H0 : Hp) (T : List (Addr × Str)) (r d l q o a b : Addr) (bk : Bk) (cs : Tx0) (od : List Tx0) (span : Nat) (H : Hp) (rows last : Tb) : Prop where
  kp : Kp [r] H0 H
  rl : Reel H r
  tb : LamX.Tabs T H
  hd : H d = some (.dK (dB bk))
  hl : H l = some (.lst (cs.map sg))
  hq : H q = some (.dK [(.inr "prices", .ref d), (.inr "order", .ref o), (.inr "view", .int span), (.inr "table", .ref a), (.inr "ends", .ref b)])
  ho : H o = some (.tup (od.map tv))
  ha : H a = some (.dK (dV tv rows))
  hb : H b = some (.dK (dV tv last))
  a0 : H0 a = none
  b0 : H0 b = none
  ab : a ≠ b
  da : d ≠ a
  db : d ≠ b
  qa : q ≠ a
  qb : q ≠ b
  lr : l ≠ r
section
variable {H0 H H' : Hp} {T : List (Addr × Str)} {r d l q o a b : Addr} {bk : Bk} {cs : Tx0} {od : List Tx0} {span : Nat} {rows last : Tb}
theorem reel_ne {r x : Addr} {H : Hp} {u : HO} (h : Reel H r) (e : H x = some u) (n : ∀ xs, u ≠ .lst xs) : x ≠ r := by
  rintro rfl
  obtain ⟨a, b, c, z⟩ := h
  rw [e] at z
  exact n _ (Option.some.inj z)
theorem PB.step (h : PB H0 T r d l q o a b bk cs od span H rows last) (k : Kp [r] H H') (hr : Reel H' r) : PB H0 T r d l q o a b bk cs od span H' rows last :=
  ⟨h.kp.trans k, hr, tabs_lst h.tb k (reel_lst h.rl), k _ _ h.hd (by simpa using reel_ne h.rl h.hd (fun _ z => by cases z)), k _ _ h.hl (by simpa using h.lr), k _ _ h.hq (by simpa using reel_ne h.rl h.hq (fun _ z => by cases z)), k _ _ h.ho (by simpa using reel_ne h.rl h.ho (fun _ z => by cases z)),
    k _ _ h.ha (by simpa using reel_ne h.rl h.ha (fun _ z => by cases z)), k _ _ h.hb (by simpa using reel_ne h.rl h.hb (fun _ z => by cases z)), h.a0, h.b0, h.ab, h.da, h.db, h.qa, h.qb, h.lr⟩
theorem PB.reel (h : PB H0 T r d l q o a b bk cs od span H rows last) (x y z : Int) : PB H0 T r d l q o a b bk cs od span (upd H r (.lst [.int x, .int y, .int z])) rows last := h.step ((kp_refl H).up (.inr (by simp))) (reel_same x y z)
theorem PB.kp0 (h : PB H0 T r d l q o a b bk cs od span H rows last) (k : Kp [] H H') : PB H0 T r d l q o a b bk cs od span H' rows last := h.step (k.any [r]) (h.rl.kp k)
theorem tabs_upd {x : Addr} {u v : HO} (t : LamX.Tabs T H) (e : H x = some v) (n1 : ∀ ps, v ≠ .tbl ps) (n2 : ∀ c q, v ≠ LamX.CodeO c q) : LamX.Tabs T (upd H x u) :=
  tabs_kp (D := [x]) t ((kp_refl H).up (.inr (by simp))) fun y hy o eo => by
    rw [List.mem_singleton.mp hy, e] at eo
    cases eo
    exact ⟨n1, n2⟩
theorem dk_code {kvs : List (Key × V)} (c : Addr) (q : Str) : HO.dK kvs ≠ LamX.CodeO c q := fun z => by
  unfold LamX.CodeO at z
  cases z
theorem PB.putA (h : PB H0 T r d l q o a b bk cs od span H rows last) (m : Tb) : PB H0 T r d l q o a b bk cs od span (upd H a (.dK (dV tv m))) m last :=
  ⟨h.kp.up (.inl h.a0), reel_upd h.rl (reel_ne h.rl h.ha (fun _ z => by cases z)).symm, tabs_upd h.tb h.ha (fun _ z => by cases z) dk_code,
    by rw [upd_ne h.da]; exact h.hd, by rw [upd_ne (fun z => by have := h.hl; rw [z, h.ha] at this; cases this)]; exact h.hl, by rw [upd_ne h.qa]; exact h.hq, by rw [upd_ne (fun z => by have := h.ho; rw [z, h.ha] at this; cases this)]; exact h.ho, upd_same, by rw [upd_ne h.ab.symm]; exact h.hb, h.a0, h.b0, h.ab, h.da, h.db, h.qa, h.qb, h.lr⟩
theorem PB.putB (h : PB H0 T r d l q o a b bk cs od span H rows last) (m : Tb) : PB H0 T r d l q o a b bk cs od span (upd H b (.dK (dV tv m))) rows m :=
  ⟨h.kp.up (.inl h.b0), reel_upd h.rl (reel_ne h.rl h.hb (fun _ z => by cases z)).symm, tabs_upd h.tb h.hb (fun _ z => by cases z) dk_code,
    by rw [upd_ne h.db]; exact h.hd, by rw [upd_ne (fun z => by have := h.hl; rw [z, h.hb] at this; cases this)]; exact h.hl, by rw [upd_ne h.qb]; exact h.hq, by rw [upd_ne (fun z => by have := h.ho; rw [z, h.hb] at this; cases this)]; exact h.ho, by rw [upd_ne h.ab]; exact h.ha, upd_same, h.a0, h.b0, h.ab, h.da, h.db, h.qa, h.qb, h.lr⟩
end
end K75
-- part S5
set_option Elab.async false
set_option linter.all false
set_option maxRecDepth 100000
set_option maxHeartbeats 4000000
namespace K75
open PySem PySem.Spec PyProof.Rows L2
/-! a def whose code object is known -/
def DefC (K : PySem.W.Frag) (mg : Str → Option Value) (x : Str) (st : Stmt) (c : Addr) : Prop :=
  ∃ f fd, FunD K x x (defArgs st) (defBody st) (defScope st) [] [] f fd ∧ mg x = some (.ref f) ∧ fd.code = .ref c
theorem cal_ofC {P : Program} {w : World} {K : PySem.W.Frag} {mg : Str → Option Value} {base : Heap} {x : Str} {st : Stmt} {c : Addr} {N ps : List Str} {k : Nat} {sp : Sp} (F : DefC K mg x st c) (S : FnScope N ps (defScope st)) (hb : BindAll x x st ps)
    (len : ∀ vs H Q E, sp vs H Q E → vs.length = ps.length)
    (hbody : ∀ (A : Around) (outer : List Env) (f : Addr) (s : Shared) (H : Hp) (vs : List V) (Q : VK) (E : XK), Room k (A.deeper (envOfC x (defScope st) s.heap.objs.size f (.ref c))) → sp vs H Q E →
      ∃ t, PSs (cxOf CX0 P w K mg base N x (defScope st) f (.ref c) A outer s H E).nox (defBody st) t ∧ t { nx := fun _ H' => Q .non H', rt := Q } (start N vs) H) : C8.Cal P w K mg base (k + 1) x sp [] := by
  obtain ⟨f, fd, F, hm, hc⟩ := F
  have bd := F.bindsN hb
  have kp := F.kp
  obtain ⟨oc, od, dV, kV, doc, pm, an, cdv, ct, osl, rfl, lk, hcd, _, _⟩ := F.ex
  have ec : cdv = .ref c := hc
  subst ec
  refine ⟨f, _, ps, [], fn_of lk hcd S len (fun A outer s H vs Q E hr h => ?_), hm, kp, bd, .nil⟩
  obtain ⟨t, ht, q⟩ := hbody A outer f s H vs Q E hr h
  exact ⟨t, ht.nox, q⟩
/-- the name of a lambda in a def -/
abbrev lamQ (x : Str) : Str := x ++ ".<locals>." ++ "<lambda>"
section
variable {P : Program} {w : World} {K : PySem.W.Frag} {mg : Str → Option Value} {base : Heap} {CB CC CF : Addr}
def sp_plan (T : List (Addr × Str)) : Sp := fun vs H Q _ => ∃ (r d : Addr) (bk : Bk), vs = [.ref r, .ref d, .int 9] ∧ Reel H r ∧ LamX.Tabs T H ∧ GoodBook bk ∧ H d = some (.dK (dB bk)) ∧
  ∀ (q o tb en : Addr) (pl : Pl) (H' : Hp), GoodPl bk pl → pl.span ≤ 9 → PlanH H' q d o tb en bk pl → KpN [r] H H' → Reel H' r → LamX.Tabs T H' → Q (.ref q) H'
theorem c_plan (T : Tx K mg CB CC CF) {c PT : Addr} {Ts : List (Addr × Str)} (F : DefC K mg "_law_plan" s_plan c) (TB : LamX.TabB base mg c PT) (hm0 : (PT, lamQ "_law_plan") ∈ Ts) (hu0 : ∀ p ∈ Ts, p.1 = PT → p.2 = lamQ "_law_plan") : C8.Cal P w K mg base 5 "_law_plan" (sp_plan Ts) [] := by
  refine cal_ofC F sc_plan (fun _ _ _ _ _ _ us hl => match us, hl with | [_, _, _], _ => rfl) (fun vs H Q E h => ?_) (fun A outer f s H vs Q E hr h => ?_)
  · obtain ⟨r, d, bk, rfl, _⟩ := h
    rfl
  · obtain ⟨r, d, bk, rfl, hR, hT, g, hd, k⟩ := h
    have h3 : sizeLine = 16777216 := sizeLine_eq
    have h12 := g.le
    have hr2 : Room 2 ((A.deeper (envOfC "_law_plan" (defScope s_plan) s.heap.objs.size f (.ref c))).in1.in1) := Room.in1 (Room.in1 hr)
    have hu := hr.units
    refine ⟨_, (pss_cons (ps_setLc (i := 3) (own := [("piece", 13)]) (g := gName 13) rfl sc_plan.nd rfl rfl (sw_true rfl rfl rfl (by decide +kernel)) (pi_list (pe_callB (call_sortedD rfl) (by rfl) T.n_sorted (by decide +kernel) (pa_cons (pv 1) pa_nil))) (blkOk_by (own := [("piece", 13)]) (N := N_plan) (sc := (defScope s_plan)) (by decide +kernel)) (fun _ _ _ _ _ => (pg_name (i := 13) sc_plan.nd rfl (Or.inl rfl))) (fun _ _ _ _ _ => (pts_one (pt_cmpR op_eq (pe_callB call_lenT (by rfl) T.n_len (by decide +kernel) (pa_cons (pv 13) pa_nil)) pe_int (nomark _)))) (fun _ _ _ _ _ => (pv 13)))
  (pss_cons (ps_set (i := 4) sc_plan.nd rfl (Or.inl rfl) (pe_op op_add pe_int (C8.pe_c (c_spin T) hr (by decide) (by rfl) (pa_cons (pv 0) (pa_cons (pv 2) pa_nil)))))
  (pss_cons (ps_set (i := 5) sc_plan.nd rfl (Or.inl rfl) (C8.pe_c (c_some T) hr (by decide) (by rfl) (pa_cons (pv 0) (pa_cons (pe_callB (call_sortedD rfl) (by rfl) T.n_sorted (by decide +kernel) (pa_cons (pv 1) pa_nil)) (pa_cons (pe_callB call_lenD (by rfl) T.n_len (by decide +kernel) (pa_cons (pv 1) pa_nil)) pa_nil)))))
  (C8.pss_cut (ps_if (pt_cmpR op_eq (C8.pe_c (c_spin T) hr (by decide) (by rfl) (pa_cons (pv 0) (pa_cons pe_int pa_nil))) pe_int (nomark _))
    (pss_one (ps_set (i := 5) sc_plan.nd rfl (Or.inl rfl) (pe_sortedLamL (T := Ts) (x := "piece") (N := ["piece"]) TB rfl hm0 hu0 rfl (by decide) rfl (by rfl) T.n_sorted ⟨rfl, rfl, rfl, by decide +kernel, rfl, by decide +kernel, by decide +kernel⟩ rfl rfl rfl T.n_len (by decide) hr2 (Nat.lt_of_le_of_lt (Nat.add_le_add_left (by decide) _) hu) (fun _ _ _ _ => rfl) (pv 5))))
    pss_nil)
  (pss_cons (ps_set (i := 6) sc_plan.nd rfl (Or.inl rfl) (pe_disp (pps_cons pe_str (pv 1) (pps_cons pe_str (pe_callTy call_tuple_of (by rfl) T.n_tuple (by decide +kernel) (pa_cons (pv 5) pa_nil)) (pps_cons pe_str (pv 4) (pps_cons pe_str pe_dnewK (pps_cons pe_str pe_dnewK pps_nil))))) (by rfl) (by rfl) (fun z => by cases z) (by decide)))
  (pss_cons (ps_for PassesOwn.never rfl (pi_list (pe_lst (pa_cons (pe_tup (pa_cons pe_str (pa_cons (pv 4) pa_nil))) (pa_cons (pe_tup (pa_cons pe_str (pa_cons (pe_op op_sub (pv 4) pe_int) pa_nil))) pa_nil)))) (pg_tupK (K := K) (n := 2) rfl (by rfl) (pgs_cons (pg_name (i := 7) sc_plan.nd rfl (Or.inl rfl)) (pgs_cons (pg_name (i := 8) sc_plan.nd rfl (Or.inl rfl)) pgs_nil)))
    (pss_cons (ps_set (i := 9) sc_plan.nd rfl (Or.inl rfl) (pe_op op_sub (C8.pe_c (c_spin T) hr (by decide) (by rfl) (pa_cons (pv 0) (pa_cons pe_int pa_nil))) pe_int))
    (pss_one (ps_for PassesOwn.never rfl (pi_range1 (by rfl) T.n_range (pa_cons (pe_ifExp (pt_cmpR op_gt (pv 8) pe_int (nomark _)) (pv 9) pe_int) pa_nil)) (pg_name (i := 10) sc_plan.nd rfl (Or.inl rfl))
      (pss_cons (ps_set (i := 11) sc_plan.nd rfl (Or.inr rfl) (C8.pe_c (c_text T) hr (by decide) (by rfl) (pa_cons (pv 0) (pa_cons (pv 3) (pa_cons (pe_op op_add pe_int (C8.pe_c (c_spin T) hr (by decide) (by rfl) (pa_cons (pv 0) (pa_cons (pv 8) pa_nil)))) pa_nil)))))
      (pss_cons (ps_setLc (i := 12) (own := [("piece", 13)]) (g := gName 13) rfl sc_plan.nd rfl rfl (sw_true rfl rfl rfl (by decide +kernel)) (pi_list (pe_callB (call_sortedD rfl) (by rfl) T.n_sorted (by decide +kernel) (pa_cons (pv 1) pa_nil))) (blkOk_by (own := [("piece", 13)]) (N := N_plan) (sc := (defScope s_plan)) (by decide +kernel)) (fun _ _ _ _ _ => (pg_name (i := 13) sc_plan.nd rfl (Or.inl rfl))) (fun _ _ _ _ _ => (pts_one (pt_cmpR op_eq (pe_slice sl_tx (pv 11) po_none (po_some (pe_callB call_lenT (by rfl) T.n_len (by decide +kernel) (pa_cons (pv 13) pa_nil)))) (pv 13) (nomark _)))) (fun _ _ _ _ _ => (pv 13)))
      (pss_one (ps_dput (hu1 hr) (pe_dget (hu1 hr) (pv 6) (pv 7) (fun _ _ => rfl)) (pv 11) (C8.pe_c (c_pick T) hr (by decide) (by rfl) (pa_cons (pv 0) (pa_cons (pv 12) pa_nil))) rfl))))))))
  (pss_one (ps_ret (pv 6))))))))), ?_⟩
    refine ⟨_, rfl, d, dB bk, bk.map fun p => SX.S p.1, rfl, .inl hd, by unfold dB dV; rw [List.map_map, List.map_map]; rfl, by rw [List.length_map]; omega, fun ys p hys hso hp => ?_⟩
    obtain ⟨l0, rfl, hl0, hsl⟩ := perm_S (l := pcs bk) (by rw [List.map_map]; exact hys) hso
    have hll := hl0.length_eq
    rw [List.length_map] at hll
    have kp1 : Kp [] H (upd H p (.lst ((l0.map SX.S).map V.str))) := (kp_refl H).up (.inl hp)
    have hp1 : upd H p (.lst ((l0.map SX.S).map V.str)) p = some (.lst (l0.map tv)) := by rw [upd_same, List.map_map]; rfl
    generalize upd H p (.lst ((l0.map SX.S).map V.str)) = H1 at kp1 hp1
    refine ⟨p, rfl, ⟨_, SqL.of hp1⟩, fun D hD => ?_⟩
    have npD := ne_of_none hp1 hD
    refine comp_list l0 tv (fun t => decide (t.length = 1)) tv (fun acc => SqL.of (by rw [upd_ne npD]; exact hp1)) (by omega) ?_ ?_
    · intro t ht acc Nx hz h1 h2
      have := (pcs_len g (hl0.mem_iff.mp ht)).2
      refine ⟨rfl, _, rfl, _, rfl, by omega, rfl, _, rfl, ite2 (fun hc => ?_) (fun hc => ?_)⟩
      · have e : t.length = 1 := by
          have := V.int.inj (of_decide_eq_true hc)
          omega
        exact ⟨_, rfl, acc, upd_same, hz, by rw [upd_upd]; exact h1 (decide_eq_true e)⟩
      · refine h2 (decide_eq_false fun e => ?_)
        rw [e] at hc
        exact absurd hc (by decide)
    obtain ⟨cs, ecs, hcs, hcne, hcl⟩ := book_signs g hl0
    have hD2 : upd H1 D (.lst ((l0.filter fun t => decide (t.length = 1)).map tv)) D = some (.lst (cs.map sg)) := by rw [upd_same, ecs, List.map_map]; rfl
    have kp2 : Kp [] H (upd H1 D (.lst ((l0.filter fun t => decide (t.length = 1)).map tv))) := kp1.up (.inl (kp1.free hD (by simp)))
    have nDr : D ≠ r := (((hR.kp kp1).ne hD)).symm
    generalize upd H1 D (.lst ((l0.filter fun t => decide (t.length = 1)).map tv)) = H2 at kp2 hD2
    refine ⟨_, rfl, _, rfl, r, 9, rfl, hR.kp kp2, by omega, by omega, fun v x y z h0 h1 => ⟨_, _, rfl, rfl, ?_⟩⟩
    obtain ⟨span, hspan, hs1, hs9⟩ : ∃ span : Nat, 1 + v = (span : Int) ∧ 1 ≤ span ∧ span ≤ 9 := ⟨(1 + v).toNat, by omega, by omega, by omega⟩
    show gName 4 (V.int (1 + v)) _ _ _
    rw [hspan]
    clear hspan h0 h1 v
    have kp3 : Kp [r] H (upd H2 r (.lst [.int x, .int y, .int z])) := (kp2.any [r]).up (.inr (by simp))
    have hR3 : Reel (upd H2 r (.lst [.int x, .int y, .int z])) r := reel_same x y z
    have hD3 : upd H2 r (.lst [.int x, .int y, .int z]) D = some (.lst (cs.map sg)) := by rw [upd_ne nDr]; exact hD2
    generalize upd H2 r (.lst [.int x, .int y, .int z]) = H3 at kp3 hR3 hD3
    have hd3 := kp3 _ _ hd (by simpa using reel_ne hR hd (fun _ z => by cases z))
    refine ⟨_, rfl, _, rfl, d, dB bk, bk.map fun p => SX.S p.1, rfl, .inl hd3, by unfold dB dV; rw [List.map_map, List.map_map]; rfl, by rw [List.length_map]; omega, fun ys2 p2 hys2 hso2 hp2 => ?_⟩
    obtain ⟨l2, rfl, hl2, _⟩ := perm_S (l := pcs bk) (by rw [List.map_map]; exact hys2) hso2
    have hl2l := hl2.length_eq
    rw [List.length_map] at hl2l
    have kp4 : Kp [] H3 (upd H3 p2 (.lst ((l2.map SX.S).map V.str))) := (kp_refl H3).up (.inl hp2)
    have hp4 : upd H3 p2 (.lst ((l2.map SX.S).map V.str)) p2 = some (.lst (l2.map tv)) := by rw [upd_same, List.map_map]; rfl
    generalize upd H3 p2 (.lst ((l2.map SX.S).map V.str)) = H4 at kp4 hp4
    have hd4 := kp4 _ _ hd3 (by simp)
    refine ⟨_, rfl, d, dB bk, rfl, hd4, r, .ref p2, l2, (dB bk).length, rfl, hR3.kp kp4, .inr ⟨p2, rfl, SqL.of hp4⟩, by omega, by rw [dV_length]; omega, fun q5 fs ls H5 q50 hperm hfl hk5 hR5 hq5 => ?_⟩
    have els : ls = [] := by
      have h1 := hperm.length_eq
      rw [List.length_append, hfl, dV_length] at h1
      exact List.length_eq_zero_iff.mp (by omega)
    rw [els, List.append_nil] at hperm
    have hfs : fs.Perm (pcs bk) := hperm.trans hl2
    have kp5 : Kp [r] H H5 := (kp3.trans (kp4.any [r])).trans hk5
    have hd5 := kp5 _ _ hd (by simpa using reel_ne hR hd (fun _ z => by cases z))
    have hD5 : H5 D = some (.lst (cs.map sg)) := hk5 _ _ (kp4 _ _ hD3 (by simp)) (by simpa using nDr)
    have nrq5 : r ≠ q5 := (hR3.kp kp4).ne q50
    clear hk5 kp4 kp3 kp2 kp1 hd4 hd3 hD3 hD2 hp1 hp4
    refine ⟨fun σ' H' => ∃ (od : List Tx0) (q5 : Addr), σ' = [some (.ref r), some (.ref d), some (.int 9), some (.ref D), some (.int span), some (.ref q5), none, none, none, none, none, none, none, none] ∧ od.Perm (pcs bk) ∧ H' q5 = some (.lst (od.map tv)) ∧ KpN [r] H H' ∧ Reel H' r ∧ LamX.Tabs Ts H' ∧ H' d = some (.dK (dB bk)) ∧ H' D = some (.lst (cs.map sg)), ?_, ?_⟩
    · refine ⟨_, rfl, r, 2, rfl, hR5, by omega, by omega, fun v x y z h0 h1 => ⟨rfl, _, rfl, ?_⟩⟩
      have kp6 : Kp [r] H (upd H5 r (.lst [.int x, .int y, .int z])) := kp5.up (.inr (by simp))
      have hR6 : Reel (upd H5 r (.lst [.int x, .int y, .int z])) r := reel_same x y z
      have hq6 : upd H5 r (.lst [.int x, .int y, .int z]) q5 = some (.lst (fs.map tv)) := by rw [upd_ne nrq5.symm]; exact hq5
      have hd6 : upd H5 r (.lst [.int x, .int y, .int z]) d = some (.dK (dB bk)) := by rw [upd_ne (reel_ne hR5 hd5 (fun _ z => by cases z))]; exact hd5
      have hD6 : upd H5 r (.lst [.int x, .int y, .int z]) D = some (.lst (cs.map sg)) := by rw [upd_ne nDr]; exact hD5
      have hT6 := tabs_lst hT kp6 (reel_lst hR)
      generalize upd H5 r (.lst [.int x, .int y, .int z]) = H6 at kp6 hR6 hq6 hd6 hD6 hT6
      refine ite2 (fun hc => ?_) (fun hc => ?_)
      · refine ⟨_, rfl, q5, fs, rfl, SqL.of hq6, fun t ht => by have := (pcs_len g (hfs.mem_iff.mp ht)).2; omega, hT6, fun H7 p ext tabs hp => ?_⟩
        have nl : ∀ {x : Addr} {u : HO}, H7 x = some u → upd H7 p (.lst ((byLen fs).map tv)) x = some u := fun {x u} e => by rw [upd_ne (ne_of_none e hp)]; exact e
        refine ⟨byLen fs, p, rfl, (List.mergeSort_perm _ _).trans hfs, upd_same, ?_, ?_, ?_, ?_, ?_⟩
        · exact (kp6.n.trans (kpn_ext ext [r])).trans (((kp_refl H7).up (.inl hp)).any [r]).n
        · obtain ⟨x, y, z, e⟩ := hR6
          exact ⟨x, y, z, nl (ext _ _ e (fun _ z => by cases z))⟩
        · exact tabs_kp (D := []) tabs ((kp_refl H7).up (.inl hp)) (fun _ h => by cases h)
        · exact nl (ext _ _ hd6 (fun _ z => by cases z))
        · exact nl (ext _ _ hD6 (fun _ z => by cases z))
      · exact ⟨fs, q5, rfl, hfs, hq6, kp6.n, hR6, hT6, hd6, hD6⟩
    clear hperm hfl kp5 hd5 hD5 hR5 hq5 hfs hR3 nrq5
    rintro σ' H7 ⟨od, q5, rfl, hod, hq7, hk7, hR7, hT7, hd7, hD7⟩
    refine fun q q0 => ⟨_, rfl, _, rfl, q5, _, rfl, .inl ⟨SqL.of (by rw [upd_ne (ne_of_none hq7 q0)]; exact hq7), fun o ho => ⟨_, rfl, fun tb htb => fun en hen => ?_⟩⟩⟩
    have kq : Kp [] H7 (upd H7 q (.dK [])) := (kp_refl H7).up (.inl q0)
    have hqa : upd H7 q (.dK []) q = some (.dK []) := upd_same
    generalize upd H7 q (.dK []) = H8 at kq hqa ho htb hen ⊢
    have o0 : H7 o = none := kq.free ho (by simp)
    have ko : Kp [] H7 (upd H8 o (.tup (od.map tv))) := kq.up (.inl o0)
    have hqb : upd H8 o (.tup (od.map tv)) q = some (.dK []) := by rw [upd_ne (ne_of_none hqa ho)]; exact hqa
    have hoa : upd H8 o (.tup (od.map tv)) o = some (.tup (od.map tv)) := upd_same
    generalize upd H8 o (.tup (od.map tv)) = H9 at ko hqb hoa htb hen ⊢
    have a0 : H7 tb = none := ko.free htb (by simp)
    have kt : Kp [] H7 (upd H9 tb (.dK [])) := ko.up (.inl a0)
    have hqc : upd H9 tb (.dK []) q = some (.dK []) := by rw [upd_ne (ne_of_none hqb htb)]; exact hqb
    have hob : upd H9 tb (.dK []) o = some (.tup (od.map tv)) := by rw [upd_ne (ne_of_none hoa htb)]; exact hoa
    have hta : upd H9 tb (.dK []) tb = some (.dK (dV tv [])) := upd_same
    have nqt := ne_of_none hqb htb
    generalize upd H9 tb (.dK []) = H10 at kt hqc hob hta hen ⊢
    have b0 : H7 en = none := kt.free hen (by simp)
    have ke : Kp [] H7 (upd H10 en (.dK [])) := kt.up (.inl b0)
    have hqd : upd H10 en (.dK []) q = some (.dK []) := by rw [upd_ne (ne_of_none hqc hen)]; exact hqc
    have hoc : upd H10 en (.dK []) o = some (.tup (od.map tv)) := by rw [upd_ne (ne_of_none hob hen)]; exact hob
    have htc : upd H10 en (.dK []) tb = some (.dK (dV tv [])) := by rw [upd_ne (ne_of_none hta hen)]; exact hta
    have hea : upd H10 en (.dK []) en = some (.dK (dV tv [])) := upd_same
    have nqe := ne_of_none hqc hen
    have nte := ne_of_none hta hen
    generalize upd H10 en (.dK []) = H11 at ke hqd hoc htc hea ⊢
    refine ⟨hqd, [(.inr "prices", .ref d), (.inr "order", .ref o), (.inr "view", .int span), (.inr "table", .ref tb), (.inr "ends", .ref en)], rfl, by show 5 ≤ 15; decide, ?_⟩
    rw [show mergeK [] [((.inr "prices" : Key), V.ref d), (.inr "order", .ref o), (.inr "view", .int span), (.inr "table", .ref tb), (.inr "ends", .ref en)] = [((.inr "prices" : Key), V.ref d), (.inr "order", .ref o), (.inr "view", .int span), (.inr "table", .ref tb), (.inr "ends", .ref en)] from rfl]
    have kf := ke.up (o := .dK [((.inr "prices" : Key), V.ref d), (.inr "order", .ref o), (.inr "view", .int span), (.inr "table", .ref tb), (.inr "ends", .ref en)]) (.inl q0)
    have nqo : o ≠ q := fun z => by rw [z, hqd] at hoc; cases hoc
    have B0 : PB H7 Ts r d D q o tb en bk cs od span (upd H11 q (.dK [((.inr "prices" : Key), V.ref d), (.inr "order", .ref o), (.inr "view", .int span), (.inr "table", .ref tb), (.inr "ends", .ref en)])) [] [] :=
      ⟨kf.any [r], hR7.kp kf, tabs_kp (D := []) hT7 kf (fun _ h => by cases h), kf _ _ hd7 (by simp), kf _ _ hD7 (by simp), upd_same, by rw [upd_ne nqo]; exact hoc, by rw [upd_ne nqt.symm]; exact htc, by rw [upd_ne nqe.symm]; exact hea, a0, b0, nte, ne_of_none hd7 a0, ne_of_none hd7 b0, nqt, nqe, nDr⟩
    generalize upd H11 q (.dK [((.inr "prices" : Key), V.ref d), (.inr "order", .ref o), (.inr "view", .int span), (.inr "table", .ref tb), (.inr "ends", .ref en)]) = H12 at B0
    clear kf ke kt ko kq hqa hqb hqc hqd hoa hob hoc hta htc hea ho htb hen
    refine ⟨_, rfl, by show 2 ≤ sizeLine; omega, fun t1 ht1 => ⟨_, rfl, _, _, rfl, rfl, by show 2 ≤ sizeLine; omega, fun t2 ht2 => ⟨by show 2 ≤ sizeLine; omega, fun L hL => ?_⟩⟩⟩
    have B1 := B0.kp0 ((kp_refl H12).up (o := .tup [V.str (Str.ofString "table"), .int span]) (.inl ht1))
    have h1a : upd H12 t1 (.tup [V.str (Str.ofString "table"), .int span]) t1 = some (.tup [.str "table", .int span]) := upd_same
    generalize upd H12 t1 (.tup [V.str (Str.ofString "table"), .int span]) = H13 at B1 h1a ht2 hL ⊢
    have B2 := B1.kp0 ((kp_refl H13).up (o := .tup [V.str (Str.ofString "ends"), .int ((span : Int) - 1)]) (.inl ht2))
    have h2a : upd H13 t2 (.tup [V.str (Str.ofString "ends"), .int ((span : Int) - 1)]) t2 = some (.tup [.str "ends", .int ((span : Int) - 1)]) := upd_same
    have h1b : upd H13 t2 (.tup [V.str (Str.ofString "ends"), .int ((span : Int) - 1)]) t1 = some (.tup [.str "table", .int span]) := by rw [upd_ne (ne_of_none h1a ht2)]; exact h1a
    generalize upd H13 t2 (.tup [V.str (Str.ofString "ends"), .int ((span : Int) - 1)]) = H14 at B2 h2a h1b hL ⊢
    have B3 := B2.kp0 ((kp_refl H14).up (o := .lst [V.ref t1, V.ref t2]) (.inl hL))
    have h2c : upd H14 L (.lst [V.ref t1, V.ref t2]) t2 = some (.tup [.str "ends", .int ((span : Int) - 1)]) := by rw [upd_ne (ne_of_none h2a hL)]; exact h2a
    have h1c : upd H14 L (.lst [V.ref t1, V.ref t2]) t1 = some (.tup [.str "table", .int span]) := by rw [upd_ne (ne_of_none h1b hL)]; exact h1b
    have hLa : upd H14 L (.lst [V.ref t1, V.ref t2]) L = some (.lst [.ref t1, .ref t2]) := upd_same
    have nLr : L ≠ r := (B2.rl.ne hL).symm
    generalize upd H14 L (.lst [V.ref t1, V.ref t2]) = H15 at B3 h2c h1c hLa ⊢
    clear B0 B1 B2 h1a h1b h2a hL ht1 ht2
    refine ⟨L, rfl, ⟨_, SqL.of hLa⟩, ?_⟩
    refine for_list (xs := [.ref t1, .ref t2]) (fun i σ H' => ∃ (rows last : Tb) (x7 x8 x9 x10 x11 x12 x13 : Option V), σ = [some (.ref r), some (.ref d), some (.int 9), some (.ref D), some (.int span), some (.ref q5), some (.ref q), x7, x8, x9, x10, x11, x12, x13] ∧ PB H7 Ts r d D q o tb en bk cs od span H' rows last ∧ H' L = some (.lst [.ref t1, .ref t2]) ∧ H' t1 = some (.tup [.str "table", .int span]) ∧ H' t2 = some (.tup [.str "ends", .int ((span : Int) - 1)]) ∧ (i = 0 → rows = []) ∧ (i ≤ 1 → last = []) ∧ GoodTb bk span rows ∧ GoodTb bk (span - 1) last)
      ⟨[], [], _, _, _, _, _, _, _, rfl, B3, hLa, h1c, h2c, fun _ => rfl, fun _ => rfl, good_nil _ _, good_nil _ _⟩ (fun i σ H' _ ⟨rows, last, _, _, _, _, _, _, _, _, _, h, _⟩ => SqL.of h) ?_ ?_
    · rintro i x σ H5 hx ⟨rows, last, x7, x8, x9, x10, x11, x12, x13, rfl, B, hL, ht1, ht2, hr0, hl0, hg1, hg2⟩
      have hi : i = 0 ∧ x = .ref t1 ∨ i = 1 ∧ x = .ref t2 := by
        match i, hx with
        | 0, hx => exact .inl ⟨rfl, (Option.some.inj hx).symm⟩
        | 1, hx => exact .inr ⟨rfl, (Option.some.inj hx).symm⟩
        | n + 2, hx => cases hx
      rcases hi with ⟨rfl, rfl⟩ | ⟨rfl, rfl⟩
      · obtain rfl := hr0 rfl
        obtain rfl := hl0 (by omega)
        refine ⟨t1, _, rfl, SqT.of ht1, rfl, _, _, rfl, _, _, rfl, rfl, ?_⟩
        refine ⟨_, rfl, r, 9, rfl, B.rl, by omega, by omega, fun v x y z h0 h1 => ⟨_, _, rfl, rfl, ?_⟩⟩
        have B5 := B.reel x y z
        have hL5 : upd H5 r (.lst [.int x, .int y, .int z]) L = some (.lst [.ref t1, .ref t2]) := by rw [upd_ne nLr]; exact hL
        have ht15 : upd H5 r (.lst [.int x, .int y, .int z]) t1 = some (.tup [.str "table", .int span]) := by rw [upd_ne (reel_ne B.rl ht1 (fun _ z => by cases z))]; exact ht1
        have ht25 : upd H5 r (.lst [.int x, .int y, .int z]) t2 = some (.tup [.str "ends", .int ((span : Int) - 1)]) := by rw [upd_ne (reel_ne B.rl ht2 (fun _ z => by cases z))]; exact ht2
        clear hL ht1 ht2
        generalize upd H5 r (.lst [.int x, .int y, .int z]) = H6 at B5 hL5 ht15 ht25
        refine ⟨_, rfl, _, _, rfl, rfl, _, rfl, ite2 (fun hc => ⟨_, rfl, v - 5, rfl, by omega, by omega, ?_⟩) (fun hc => ⟨0, rfl, by omega, by omega, ?_⟩)⟩
        · have hsz : 0 < span := by
            have := of_decide_eq_true hc
            omega
          have hlots : (v - 5).toNat ≤ 3 := by omega
          refine for_range (n := (v - 5).toNat) (fun j σ' H' => ∃ (m : Tb) (x10 x11 x12 x13 : Option V), σ' = [some (.ref r), some (.ref d), some (.int 9), some (.ref D), some (.int span), some (.ref q5), some (.ref q), some (.str "table"), some (.int span), some (.int (v - 5)), x10, x11, x12, x13] ∧ PB H7 Ts r d D q o tb en bk cs od span H' m [] ∧ H' L = some (.lst [.ref t1, .ref t2]) ∧ H' t1 = some (.tup [.str "table", .int span]) ∧ H' t2 = some (.tup [.str "ends", .int ((span : Int) - 1)]) ∧ GT bk span j m)
            ⟨[], _, _, _, _, rfl, B5, hL5, ht15, ht25, ⟨.nil, Nat.le_refl _, fun _ h => by cases h⟩⟩ ?_ ?_
          · rintro j σ H7 hj ⟨m, x10, x11, x12, x13, rfl, B, hL, ht1, ht2, G⟩
            refine ⟨_, rfl, _, rfl, _, rfl, _, rfl, r, ((span : Nat) : Int), rfl, B.rl, by omega, by omega, fun v2 x y z h0 h1 => ?_⟩
            obtain ⟨u, rfl⟩ : ∃ u : Nat, v2 = u := ⟨v2.toNat, by omega⟩
            have B8 := B.reel x y z
            have hL8 : upd H7 r (.lst [.int x, .int y, .int z]) L = some (.lst [.ref t1, .ref t2]) := by rw [upd_ne nLr]; exact hL
            have ht18 : upd H7 r (.lst [.int x, .int y, .int z]) t1 = some (.tup [.str "table", .int span]) := by rw [upd_ne (reel_ne B.rl ht1 (fun _ z => by cases z))]; exact ht1
            have ht28 : upd H7 r (.lst [.int x, .int y, .int z]) t2 = some (.tup [.str "ends", .int ((span : Int) - 1)]) := by rw [upd_ne (reel_ne B.rl ht2 (fun _ z => by cases z))]; exact ht2
            clear hL ht1 ht2
            generalize upd H7 r (.lst [.int x, .int y, .int z]) = H8 at B8 hL8 ht18 ht28
            refine ⟨_, _, rfl, rfl, r, .ref D, cs, 1 + u, by simp, B8.rl, .inr ⟨D, rfl, B8.hl⟩, fun e => B8.lr (by cases e; rfl), .inl hcne, by omega, by omega, fun t H9 htl htc hk9 hR9 => ?_⟩
            have B9 := B8.step hk9 hR9
            have hL9 := hk9 _ _ hL8 (by simpa using nLr)
            have ht19 := hk9 _ _ ht18 (by simpa using reel_ne B8.rl ht18 (fun _ z => by cases z))
            have ht29 := hk9 _ _ ht28 (by simpa using reel_ne B8.rl ht28 (fun _ z => by cases z))
            have hov : Ov bk t := fun c hc => (hcs c).mp (htc c hc)
            have htne : t ≠ [] := by
              rintro rfl
              simp at htl
              omega
            refine ⟨_, rfl, d, dB bk, bk.map fun p => SX.S p.1, rfl, .inl B9.hd, by unfold dB dV; rw [List.map_map, List.map_map]; rfl, by rw [List.length_map]; omega, fun ys p hys hso hp => ?_⟩
            obtain ⟨l3, rfl, hl3, hsl3⟩ := perm_S (l := pcs bk) (by rw [List.map_map]; exact hys) hso
            have kpa : Kp [] H9 (upd H9 p (.lst ((l3.map SX.S).map V.str))) := (kp_refl H9).up (.inl hp)
            have hpa : upd H9 p (.lst ((l3.map SX.S).map V.str)) p = some (.lst (l3.map tv)) := by rw [upd_same, List.map_map]; rfl
            generalize upd H9 p (.lst ((l3.map SX.S).map V.str)) = H10 at kpa hpa
            have hl3l := hl3.length_eq
            rw [List.length_map] at hl3l
            refine ⟨p, rfl, ⟨_, SqL.of hpa⟩, fun D2 hD2 => ?_⟩
            refine comp_list l3 tv (fun p => beg p t) tv (fun acc => SqL.of (by rw [upd_ne (ne_of_none hpa hD2)]; exact hpa)) (by omega) ?_ ?_
            · intro p2 hp2 acc Nx hz h1 h2
              have := (pcs_len g (hl3.mem_iff.mp hp2)).2
              refine ⟨rfl, _, rfl, _, rfl, _, rfl, by omega, _, rfl, _, rfl, by omega, .inl ⟨rfl, p2.length, rfl, ?_⟩⟩
              refine ⟨_, rfl, rfl, _, rfl, ite2 (fun hc => ?_) (fun hc => ?_)⟩
              · exact ⟨_, rfl, acc, upd_same, hz, by rw [upd_upd]; exact h1 (decide_eq_true (SX.S_inj (V.str.inj (of_decide_eq_true hc))).symm)⟩
              · refine h2 (decide_eq_false fun e => ?_)
                rw [decide_eq_true (by rw [← e])] at hc
                exact hc rfl
            · have B11 := (B9.kp0 kpa).kp0 ((kp_refl H10).up (o := .lst ((l3.filter fun p => beg p t).map tv)) (.inl hD2))
              have hD11 : upd H10 D2 (.lst ((l3.filter fun p => beg p t).map tv)) D2 = some (.lst ((l3.filter fun p => beg p t).map tv)) := upd_same
              have kpb : Kp [] H9 (upd H10 D2 (.lst ((l3.filter fun p => beg p t).map tv))) := kpa.trans ((kp_refl H10).up (.inl hD2))
              have hL11 := kpb _ _ hL9 (by simp)
              have ht111 := kpb _ _ ht19 (by simp)
              have ht211 := kpb _ _ ht29 (by simp)
              have nD2 : V.ref D2 ≠ .ref r := fun e => (B9.kp0 kpa).rl.ne hD2 (by cases e; rfl)
              clear hL8 ht18 ht28 hL9 ht19 ht29
              generalize upd H10 D2 (.lst ((l3.filter fun p => beg p t).map tv)) = H11 at B11 hD11 hL11 ht111 ht211
              have hfne : l3.filter (fun p => beg p t) ≠ [] := by
                obtain ⟨p4, hp4, _, _⟩ := head_pieces hl3 hov htne
                intro e
                rw [e] at hp4
                cases hp4
              refine ⟨_, rfl, _, rfl, r, .ref D2, (l3.filter fun p => beg p t).map tv, rfl, B11.rl, .inr ⟨D2, rfl, SqL.of hD11⟩, nD2, by simpa using hfne, ?_, fun y a1 b1 c1 hy => ?_⟩
              · rw [List.length_map]
                have := List.length_filter_le (fun p => beg p t) l3
                omega
              obtain ⟨p5, hp5, rfl⟩ := List.mem_map.mp hy
              obtain ⟨hp6, hp7⟩ := List.mem_filter.mp hp5
              have B12 := B11.reel a1 b1 c1
              have hL12 : upd H11 r (.lst [.int a1, .int b1, .int c1]) L = some (.lst [.ref t1, .ref t2]) := by rw [upd_ne nLr]; exact hL11
              have ht112 : upd H11 r (.lst [.int a1, .int b1, .int c1]) t1 = some (.tup [.str "table", .int span]) := by rw [upd_ne (reel_ne B11.rl ht111 (fun _ z => by cases z))]; exact ht111
              have ht212 : upd H11 r (.lst [.int a1, .int b1, .int c1]) t2 = some (.tup [.str "ends", .int ((span : Int) - 1)]) := by rw [upd_ne (reel_ne B11.rl ht211 (fun _ z => by cases z))]; exact ht211
              clear hL11 ht111 ht211
              generalize upd H11 r (.lst [.int a1, .int b1, .int c1]) = H12 at B12 hL12 ht112 ht212
              have hgl := G.le
              refine ⟨_, rfl, _, rfl, _, _, rfl, .inl ⟨_, .inr "table", .inl B12.hq, rfl, rfl⟩, _, rfl, tb, _, rfl, dput_A (f := tv) B12.ha (by omega) t p5, ?_⟩
              have B13 := B12.putA (K75.putA m t p5)
              have n1 : ∀ {x : Addr} {u : HO}, H12 x = some u → (∀ k, u ≠ .dK k) → upd H12 tb (.dK (dV tv (K75.putA m t p5))) x = some u := fun {x u} e n => by
                rw [upd_ne (fun z => by rw [z, B12.ha] at e; exact n _ (Option.some.inj e).symm)]
                exact e
              exact ⟨K75.putA m t p5, _, _, _, _, rfl, B13, n1 hL12 (fun _ z => by cases z), n1 ht112 (fun _ z => by cases z), n1 ht212 (fun _ z => by cases z), G.put hov (by omega) (by omega) (hl3.mem_iff.mp hp6) hp7⟩
          · rintro σ H7 ⟨m, x10, x11, x12, x13, rfl, B, hL, ht1, ht2, G⟩
            exact ⟨m, [], _, _, _, _, _, _, _, rfl, B, hL, ht1, ht2, (fun z => by omega), (fun _ => rfl), G.good (by omega), good_nil _ _⟩
        · refine for_range (n := 0) (fun j σ' H' => ∃ (m : Tb) (x10 x11 x12 x13 : Option V), σ' = [some (.ref r), some (.ref d), some (.int 9), some (.ref D), some (.int span), some (.ref q5), some (.ref q), some (.str "table"), some (.int span), some (.int (v - 5)), x10, x11, x12, x13] ∧ PB H7 Ts r d D q o tb en bk cs od span H' m [] ∧ H' L = some (.lst [.ref t1, .ref t2]) ∧ H' t1 = some (.tup [.str "table", .int span]) ∧ H' t2 = some (.tup [.str "ends", .int ((span : Int) - 1)]) ∧ GT bk span j m)
            ⟨[], _, _, _, _, rfl, B5, hL5, ht15, ht25, ⟨.nil, Nat.le_refl _, fun _ h => by cases h⟩⟩ (fun j σ H7 hj => absurd hj (by omega)) ?_
          rintro σ H7 ⟨m, x10, x11, x12, x13, rfl, B, hL, ht1, ht2, G⟩
          exact ⟨m, [], _, _, _, _, _, _, _, rfl, B, hL, ht1, ht2, (fun z => by omega), (fun _ => rfl), G.good (by omega), good_nil _ _⟩
      · obtain rfl := hl0 (by omega)
        refine ⟨t2, _, rfl, SqT.of ht2, rfl, _, _, rfl, _, _, rfl, rfl, ?_⟩
        refine ⟨_, rfl, r, 9, rfl, B.rl, by omega, by omega, fun v x y z h0 h1 => ⟨_, _, rfl, rfl, ?_⟩⟩
        have B5 := B.reel x y z
        have hL5 : upd H5 r (.lst [.int x, .int y, .int z]) L = some (.lst [.ref t1, .ref t2]) := by rw [upd_ne nLr]; exact hL
        have ht15 : upd H5 r (.lst [.int x, .int y, .int z]) t1 = some (.tup [.str "table", .int span]) := by rw [upd_ne (reel_ne B.rl ht1 (fun _ z => by cases z))]; exact ht1
        have ht25 : upd H5 r (.lst [.int x, .int y, .int z]) t2 = some (.tup [.str "ends", .int ((span : Int) - 1)]) := by rw [upd_ne (reel_ne B.rl ht2 (fun _ z => by cases z))]; exact ht2
        clear hL ht1 ht2
        generalize upd H5 r (.lst [.int x, .int y, .int z]) = H6 at B5 hL5 ht15 ht25
        refine ⟨_, rfl, _, _, rfl, rfl, _, rfl, ite2 (fun hc => ⟨_, rfl, v - 5, rfl, by omega, by omega, ?_⟩) (fun hc => ⟨0, rfl, by omega, by omega, ?_⟩)⟩
        · have hsz : 0 < (span - 1) := by
            have := of_decide_eq_true hc
            omega
          have hlots : (v - 5).toNat ≤ 3 := by omega
          refine for_range (n := (v - 5).toNat) (fun j σ' H' => ∃ (m : Tb) (x10 x11 x12 x13 : Option V), σ' = [some (.ref r), some (.ref d), some (.int 9), some (.ref D), some (.int span), some (.ref q5), some (.ref q), some (.str "ends"), some (.int ((span : Int) - 1)), some (.int (v - 5)), x10, x11, x12, x13] ∧ PB H7 Ts r d D q o tb en bk cs od span H' rows m ∧ H' L = some (.lst [.ref t1, .ref t2]) ∧ H' t1 = some (.tup [.str "table", .int span]) ∧ H' t2 = some (.tup [.str "ends", .int ((span : Int) - 1)]) ∧ GT bk (span - 1) j m)
            ⟨[], _, _, _, _, rfl, B5, hL5, ht15, ht25, ⟨.nil, Nat.le_refl _, fun _ h => by cases h⟩⟩ ?_ ?_
          · rintro j σ H7 hj ⟨m, x10, x11, x12, x13, rfl, B, hL, ht1, ht2, G⟩
            refine ⟨_, rfl, _, rfl, _, rfl, _, rfl, r, (((span - 1) : Nat) : Int), by rw [Int.natCast_sub hs1]; rfl, B.rl, by omega, by omega, fun v2 x y z h0 h1 => ?_⟩
            obtain ⟨u, rfl⟩ : ∃ u : Nat, v2 = u := ⟨v2.toNat, by omega⟩
            have B8 := B.reel x y z
            have hL8 : upd H7 r (.lst [.int x, .int y, .int z]) L = some (.lst [.ref t1, .ref t2]) := by rw [upd_ne nLr]; exact hL
            have ht18 : upd H7 r (.lst [.int x, .int y, .int z]) t1 = some (.tup [.str "table", .int span]) := by rw [upd_ne (reel_ne B.rl ht1 (fun _ z => by cases z))]; exact ht1
            have ht28 : upd H7 r (.lst [.int x, .int y, .int z]) t2 = some (.tup [.str "ends", .int ((span : Int) - 1)]) := by rw [upd_ne (reel_ne B.rl ht2 (fun _ z => by cases z))]; exact ht2
            clear hL ht1 ht2
            generalize upd H7 r (.lst [.int x, .int y, .int z]) = H8 at B8 hL8 ht18 ht28
            refine ⟨_, _, rfl, rfl, r, .ref D, cs, 1 + u, by simp, B8.rl, .inr ⟨D, rfl, B8.hl⟩, fun e => B8.lr (by cases e; rfl), .inl hcne, by omega, by omega, fun t H9 htl htc hk9 hR9 => ?_⟩
            have B9 := B8.step hk9 hR9
            have hL9 := hk9 _ _ hL8 (by simpa using nLr)
            have ht19 := hk9 _ _ ht18 (by simpa using reel_ne B8.rl ht18 (fun _ z => by cases z))
            have ht29 := hk9 _ _ ht28 (by simpa using reel_ne B8.rl ht28 (fun _ z => by cases z))
            have hov : Ov bk t := fun c hc => (hcs c).mp (htc c hc)
            have htne : t ≠ [] := by
              rintro rfl
              simp at htl
              omega
            refine ⟨_, rfl, d, dB bk, bk.map fun p => SX.S p.1, rfl, .inl B9.hd, by unfold dB dV; rw [List.map_map, List.map_map]; rfl, by rw [List.length_map]; omega, fun ys p hys hso hp => ?_⟩
            obtain ⟨l3, rfl, hl3, hsl3⟩ := perm_S (l := pcs bk) (by rw [List.map_map]; exact hys) hso
            have kpa : Kp [] H9 (upd H9 p (.lst ((l3.map SX.S).map V.str))) := (kp_refl H9).up (.inl hp)
            have hpa : upd H9 p (.lst ((l3.map SX.S).map V.str)) p = some (.lst (l3.map tv)) := by rw [upd_same, List.map_map]; rfl
            generalize upd H9 p (.lst ((l3.map SX.S).map V.str)) = H10 at kpa hpa
            have hl3l := hl3.length_eq
            rw [List.length_map] at hl3l
            refine ⟨p, rfl, ⟨_, SqL.of hpa⟩, fun D2 hD2 => ?_⟩
            refine comp_list l3 tv (fun p => beg p t) tv (fun acc => SqL.of (by rw [upd_ne (ne_of_none hpa hD2)]; exact hpa)) (by omega) ?_ ?_
            · intro p2 hp2 acc Nx hz h1 h2
              have := (pcs_len g (hl3.mem_iff.mp hp2)).2
              refine ⟨rfl, _, rfl, _, rfl, _, rfl, by omega, _, rfl, _, rfl, by omega, .inl ⟨rfl, p2.length, rfl, ?_⟩⟩
              refine ⟨_, rfl, rfl, _, rfl, ite2 (fun hc => ?_) (fun hc => ?_)⟩
              · exact ⟨_, rfl, acc, upd_same, hz, by rw [upd_upd]; exact h1 (decide_eq_true (SX.S_inj (V.str.inj (of_decide_eq_true hc))).symm)⟩
              · refine h2 (decide_eq_false fun e => ?_)
                rw [decide_eq_true (by rw [← e])] at hc
                exact hc rfl
            · have B11 := (B9.kp0 kpa).kp0 ((kp_refl H10).up (o := .lst ((l3.filter fun p => beg p t).map tv)) (.inl hD2))
              have hD11 : upd H10 D2 (.lst ((l3.filter fun p => beg p t).map tv)) D2 = some (.lst ((l3.filter fun p => beg p t).map tv)) := upd_same
              have kpb : Kp [] H9 (upd H10 D2 (.lst ((l3.filter fun p => beg p t).map tv))) := kpa.trans ((kp_refl H10).up (.inl hD2))
              have hL11 := kpb _ _ hL9 (by simp)
              have ht111 := kpb _ _ ht19 (by simp)
              have ht211 := kpb _ _ ht29 (by simp)
              have nD2 : V.ref D2 ≠ .ref r := fun e => (B9.kp0 kpa).rl.ne hD2 (by cases e; rfl)
              clear hL8 ht18 ht28 hL9 ht19 ht29
              generalize upd H10 D2 (.lst ((l3.filter fun p => beg p t).map tv)) = H11 at B11 hD11 hL11 ht111 ht211
              have hfne : l3.filter (fun p => beg p t) ≠ [] := by
                obtain ⟨p4, hp4, _, _⟩ := head_pieces hl3 hov htne
                intro e
                rw [e] at hp4
                cases hp4
              refine ⟨_, rfl, _, rfl, r, .ref D2, (l3.filter fun p => beg p t).map tv, rfl, B11.rl, .inr ⟨D2, rfl, SqL.of hD11⟩, nD2, by simpa using hfne, ?_, fun y a1 b1 c1 hy => ?_⟩
              · rw [List.length_map]
                have := List.length_filter_le (fun p => beg p t) l3
                omega
              obtain ⟨p5, hp5, rfl⟩ := List.mem_map.mp hy
              obtain ⟨hp6, hp7⟩ := List.mem_filter.mp hp5
              have B12 := B11.reel a1 b1 c1
              have hL12 : upd H11 r (.lst [.int a1, .int b1, .int c1]) L = some (.lst [.ref t1, .ref t2]) := by rw [upd_ne nLr]; exact hL11
              have ht112 : upd H11 r (.lst [.int a1, .int b1, .int c1]) t1 = some (.tup [.str "table", .int span]) := by rw [upd_ne (reel_ne B11.rl ht111 (fun _ z => by cases z))]; exact ht111
              have ht212 : upd H11 r (.lst [.int a1, .int b1, .int c1]) t2 = some (.tup [.str "ends", .int ((span : Int) - 1)]) := by rw [upd_ne (reel_ne B11.rl ht211 (fun _ z => by cases z))]; exact ht211
              clear hL11 ht111 ht211
              generalize upd H11 r (.lst [.int a1, .int b1, .int c1]) = H12 at B12 hL12 ht112 ht212
              have hgl := G.le
              refine ⟨_, rfl, _, rfl, _, _, rfl, .inl ⟨_, .inr "ends", .inl B12.hq, rfl, rfl⟩, _, rfl, en, _, rfl, dput_A (f := tv) B12.hb (by omega) t p5, ?_⟩
              have B13 := B12.putB (K75.putA m t p5)
              have n1 : ∀ {x : Addr} {u : HO}, H12 x = some u → (∀ k, u ≠ .dK k) → upd H12 en (.dK (dV tv (K75.putA m t p5))) x = some u := fun {x u} e n => by
                rw [upd_ne (fun z => by rw [z, B12.hb] at e; exact n _ (Option.some.inj e).symm)]
                exact e
              exact ⟨K75.putA m t p5, _, _, _, _, rfl, B13, n1 hL12 (fun _ z => by cases z), n1 ht112 (fun _ z => by cases z), n1 ht212 (fun _ z => by cases z), G.put hov (by omega) (by omega) (hl3.mem_iff.mp hp6) hp7⟩
          · rintro σ H7 ⟨m, x10, x11, x12, x13, rfl, B, hL, ht1, ht2, G⟩
            exact ⟨rows, m, _, _, _, _, _, _, _, rfl, B, hL, ht1, ht2, (fun z => by omega), (fun z => by omega), hg1, G.good (by omega)⟩
        · refine for_range (n := 0) (fun j σ' H' => ∃ (m : Tb) (x10 x11 x12 x13 : Option V), σ' = [some (.ref r), some (.ref d), some (.int 9), some (.ref D), some (.int span), some (.ref q5), some (.ref q), some (.str "ends"), some (.int ((span : Int) - 1)), some (.int (v - 5)), x10, x11, x12, x13] ∧ PB H7 Ts r d D q o tb en bk cs od span H' rows m ∧ H' L = some (.lst [.ref t1, .ref t2]) ∧ H' t1 = some (.tup [.str "table", .int span]) ∧ H' t2 = some (.tup [.str "ends", .int ((span : Int) - 1)]) ∧ GT bk (span - 1) j m)
            ⟨[], _, _, _, _, rfl, B5, hL5, ht15, ht25, ⟨.nil, Nat.le_refl _, fun _ h => by cases h⟩⟩ (fun j σ H7 hj => absurd hj (by omega)) ?_
          rintro σ H7 ⟨m, x10, x11, x12, x13, rfl, B, hL, ht1, ht2, G⟩
          exact ⟨rows, m, _, _, _, _, _, _, _, rfl, B, hL, ht1, ht2, (fun z => by omega), (fun z => by omega), hg1, G.good (by omega)⟩
    · rintro σ H5 ⟨rows, last, x7, x8, x9, x10, x11, x12, x13, rfl, B, hL, ht1, ht2, hr0, hl0, hg1, hg2⟩
      exact ⟨_, rfl, k q o tb en ⟨od, span, rows, last⟩ H5 ⟨hod, hs1, by show span ≤ 2000; omega, hg1, hg2⟩ hs9 ⟨B.hq, B.hd, B.ho, B.ha, B.hb⟩ (hk7.trans B.kp.n) B.rl B.tb⟩
end
end K75
-- part S6
set_option Elab.async false
set_option linter.all false
set_option maxRecDepth 100000
set_option maxHeartbeats 4000000
namespace K75
open PySem PySem.Spec PyProof.Rows L2
theorem kp_fresh {D E : List Addr} {H H' : Hp} (k : Kp E H H') (h : ∀ x ∈ E, x ∈ D ∨ H x = none) : Kp D H H' := fun a o ha hd => k a o ha fun he => by
  rcases h a he with z | z
  · exact hd z
  · rw [z] at ha
    cases ha
/-- dict(d) -/
theorem cr_dictD {X : Cx} : CallR X (.type "dict") (fun xs H Q => ∃ a kvs, xs = [.ref a] ∧ H a = some (.dK kvs) ∧ ∀ p, H p = none → Q (.ref p) (upd H p (.dK kvs))) := by
  intro pins s σ H xs us Q I r q
  obtain ⟨a, kvs, rfl, ha, q⟩ := q
  obtain ⟨u, rfl, rx⟩ := vals1 r
  cases rx
  obtain ⟨hz, hd, vs, rel, D⟩ := dk_of I.hok ha
  refine kt_call_dict hd D (by rw [← rel.length]; exact hz) fun h' hD' hs => ?_
  have k : ∀ b o, s.heap.get? b = some o → h'.get? b = some o := fun b o e => hs.extBut b o (Nat.ne_of_lt (Heap.lt_size e)) (Heap.get?_push_of_some _ e)
  have hm : (s.heap.objs.size == sysModules) = false := beq_eq_false_iff_ne.mpr (Nat.ne_of_gt I.big)
  exact ⟨.ref s.heap.objs.size, upd H s.heap.objs.size (.dK kvs), I.laid (t' := s.toks) k (Nat.le_refl _) (show ObjOk X.prog X.w _ _ _ (.dK kvs) from ⟨hz, hm, vs, rel, hD'⟩), rfl, q _ (I.hok.fresh (Nat.le_refl _))⟩
section
variable {P : Program} {w : World} {K : PySem.W.Frag} {mg : Str → Option Value} {base : Heap} {CB CC CF : Addr}
/-! ### the program's cutter, made of a plan -/
def sp_cutter (CB CC : Addr) : Sp := fun vs H Q _ => ∃ (q d o tb en : Addr) (bk : Bk) (pl : Pl), vs = [.ref q] ∧ GoodBook bk ∧ PlanH H q d o tb en bk pl ∧ GoodPl bk pl ∧
  ∀ (c : Addr) (bl : Bk) (H' : Hp), bl.Perm bk → CutH CB CC H' c bl pl → Kp [] H H' → Q (.ref c) H'
theorem GoodTb.perm {bk bl : Bk} {n : Nat} {m : Tb} (h : bl.Perm bk) (g : GoodTb bk n m) : GoodTb bl n m :=
  ⟨g.nd, g.le, fun p hp c hc => (h.map _).mem_iff.mpr (g.ov p hp c hc), g.ln, fun p hp => (h.map _).mem_iff.mpr (g.pc p hp), g.bg⟩
theorem GoodPl.perm {bk bl : Bk} {pl : Pl} (h : bl.Perm bk) (g : GoodPl bk pl) : GoodPl bl pl :=
  ⟨g.od.trans (h.map _).symm, g.s1, g.s2, g.rw.perm h, g.la.perm h⟩
theorem c_cutter (T : Ty K mg CB CC CF) : C8.Cal P w K mg base 8 "_law_cutter" (sp_cutter CB CC) [] := by
  refine cal_of T.d_cutter sc_cutter (fun _ _ _ _ _ _ us hl => match us, hl with | [_], _ => rfl) (fun vs H Q E h => ?_) (fun cdv A outer f s H vs Q E hr h => ?_)
  · obtain ⟨q, d, o, tb, en, bk, pl, rfl, _⟩ := h
    rfl
  · obtain ⟨q, d, o, tb, en, bk, pl, rfl, g, hp, gp, k⟩ := h
    obtain ⟨f0, fd, M, F, hm, g0, hkb⟩ := mk_full (P := P) (w := w) (base := base) T
    refine ⟨_, (pss_cons (ps_par (i := 1) (j := 2) (by rfl) sc_cutter.nd rfl rfl (by decide) rfl rfl (pa_cons (pe_callTy cr_dictD (by rfl) T.n_dict (by decide +kernel) (pa_cons (pe_dget (hu1 hr) (pv 0) pe_str (fun _ _ => rfl)) pa_nil)) (pa_cons (pe_callTy cr_dictD (by rfl) T.n_dict (by decide +kernel) (pa_cons (pe_dget (hu1 hr) (pv 0) pe_str (fun _ _ => rfl)) pa_nil)) pa_nil)) (by rfl))
  (pss_one (ps_ret (pe_makeK M F (hr.mono (by decide)) (by rfl) hm hkb pass0 (pa_cons (C8.pe_mk (c_Book T) hr (by decide) (by rfl) (pa_cons (pe_callTy cr_dictD (by rfl) T.n_dict (by decide +kernel) (pa_cons (pe_dget (hu1 hr) (pv 0) pe_str (fun _ _ => rfl)) pa_nil)) pa_nil)) (pa_cons (pe_dget (hu1 hr) (pv 0) pe_str (fun _ _ => rfl)) pa_nil)) (pk_cons (pe_dget (hu1 hr) (pv 0) pe_str (fun _ _ => rfl)) (pk_cons (pv 1) (pk_cons (pv 2) pk_nil))))))), ?_⟩
    refine ⟨_, rfl, _, _, rfl, hp.g_table, tb, _, rfl, hp.ht, fun a ha => ?_⟩
    have hk1 : Kp [] H (upd H a (.dK (dV tv pl.rows))) := (kp_refl H).up (.inl ha)
    have ha1 : upd H a (.dK (dV tv pl.rows)) a = some (.dK (dV tv pl.rows)) := upd_same
    generalize upd H a (.dK (dV tv pl.rows)) = H1 at hk1 ha1
    have hp1 := hp.kp0 hk1
    refine ⟨_, rfl, _, _, rfl, hp1.g_ends, en, _, rfl, hp1.he, fun b hb => ⟨_, _, rfl, ?_⟩⟩
    have hk2 : Kp [] H1 (upd H1 b (.dK (dV tv pl.last))) := (kp_refl H1).up (.inl hb)
    have hb2 : upd H1 b (.dK (dV tv pl.last)) b = some (.dK (dV tv pl.last)) := upd_same
    generalize upd H1 b (.dK (dV tv pl.last)) = H2 at hk2 hb2
    have hp2 := hp1.kp0 hk2
    have ha2 := hk2 _ _ ha1 (by simp)
    refine ⟨_, rfl, _, _, rfl, hp2.g_prices, d, _, rfl, hp2.hd, fun dd hdd => ?_⟩
    have hk3 : Kp [] H2 (upd H2 dd (.dK (dB bk))) := (kp_refl H2).up (.inl hdd)
    have hd3 : upd H2 dd (.dK (dB bk)) dd = some (.dK (dB bk)) := upd_same
    generalize upd H2 dd (.dK (dB bk)) = H3 at hk3 hd3
    intro bo dxb hbo0 hdxb0 neb
    have hk4 : Kp [] H3 (upd (upd H3 dxb (.own bo)) bo (.ins CB dxb [])) := ((kp_refl H3).up (.inl hdxb0)).up (.inl hbo0)
    have hbo4 : upd (upd H3 dxb (.own bo)) bo (.ins CB dxb []) bo = some (.ins CB dxb []) := upd_same
    have hd4 := hk4 _ _ hd3 (by simp)
    generalize upd (upd H3 dxb (.own bo)) bo (.ins CB dxb []) = H4 at hk4 hbo4 hd4
    refine ⟨bo, dxb, dd, bk, rfl, hbo4, hd4, g, fun bl H5 hbl hb5 hk5 => ⟨rfl, ?_⟩⟩
    have hk35 : Kp [] H3 H5 := kp_fresh (D := []) ((hk4.any [bo]).trans hk5) (fun x hx => by
      rw [List.mem_singleton.mp hx]
      exact .inr hbo0)
    have hk5' := ((hk1.trans hk2).trans hk3).trans hk35
    have hp5 := hp.kp0 hk5'
    have ha5 := (hk3.trans hk35) _ _ ha2 (by simp)
    have hb5' := (hk3.trans hk35) _ _ hb2 (by simp)
    refine ⟨_, rfl, _, _, rfl, hp5.g_order, _, rfl, _, _, rfl, hp5.g_view, _, rfl, _, rfl, rfl, rfl, fun x dx hx hdx hne => ?_⟩
    have hk6 : Kp [] H5 (upd (upd H5 dx (.own x)) x (.ins CC dx [])) := ((kp_refl H5).up (.inl hdx)).up (.inl hx)
    have hx6 : upd (upd H5 dx (.own x)) x (.ins CC dx []) x = some (.ins CC dx []) := upd_same
    generalize upd (upd H5 dx (.own x)) x (.ins CC dx []) = H6 at hk6 hx6
    refine ⟨x, dx, bo, o, _, _, _, bl, pl, rfl, hx6, hb5.kp0 hk6, hk6 _ _ hp5.ho (by simp), gp.perm hbl, .inl rfl, .inl ⟨a, rfl, hk6 _ _ ha5 (by simp)⟩, .inl ⟨b, rfl, hk6 _ _ hb5' (by simp)⟩, fun H7 hc hk7 => ⟨rfl, k x bl H7 hbl hc ?_⟩⟩
    exact hk5'.trans (kp_fresh (D := []) ((hk6.any [x]).trans hk7) (fun y hy => by
      rw [List.mem_singleton.mp hy]
      exact .inr hx))
/-! ### the signs of a plan -/
def sp_alphabet : Sp := fun vs H Q _ => ∃ (q d o tb en : Addr) (bk : Bk) (pl : Pl), vs = [.ref q] ∧ GoodBook bk ∧ PlanH H q d o tb en bk pl ∧
  ∀ (l : Addr) (cs : Tx0) (H' : Hp), H l = none → (∀ c, c ∈ cs ↔ [c] ∈ pcs bk) → cs ≠ [] → cs.length ≤ 12 → Kp [] H H' → H' l = some (.lst (cs.map sg)) → Q (.ref l) H'
theorem c_alphabet (T : Ty K mg CB CC CF) : C8.Cal P w K mg base 1 "_law_alphabet" sp_alphabet [] := by
  refine cal_of T.d_alphabet sc_alphabet (fun _ _ _ _ _ _ us hl => match us, hl with | [_], _ => rfl) (fun vs H Q E h => ?_) (fun cdv A outer f s H vs Q E hr h => ?_)
  · obtain ⟨q, d, o, tb, en, bk, pl, rfl, _⟩ := h
    rfl
  · obtain ⟨q, d, o, tb, en, bk, pl, rfl, g, hp, k⟩ := h
    have h3 : sizeLine = 16777216 := sizeLine_eq
    have h12 := g.le
    refine ⟨_, (pss_one (ps_ret (pe_lc (own := [("piece", 1)]) (g := gName 1) rfl sc_alphabet.nd (pi_list (pe_callB (call_sortedD rfl) (by rfl) T.n_sorted (by decide +kernel) (pa_cons (pe_dget (hu1 hr) (pv 0) pe_str (fun _ _ => rfl)) pa_nil))) (blkOk_by (own := [("piece", 1)]) (N := N_alphabet) (sc := (defScope s_alphabet)) (by decide +kernel)) (fun _ _ _ _ _ => (pg_name (i := 1) sc_alphabet.nd rfl (Or.inl rfl))) (fun _ _ _ _ _ => (pts_one (pt_cmpR op_eq (pe_callB call_lenT (by rfl) T.n_len (by decide +kernel) (pa_cons (pv 1) pa_nil)) pe_int (nomark _)))) (fun _ _ _ _ _ => (pv 1))))), ?_⟩
    refine ⟨_, rfl, _, _, rfl, hp.g_prices, d, dB bk, bk.map fun p => SX.S p.1, rfl, .inl hp.hd, by unfold dB dV; rw [List.map_map, List.map_map]; rfl, by rw [List.length_map]; omega, fun ys p hys hso hp0 => ?_⟩
    obtain ⟨l0, rfl, hl0, hsl⟩ := perm_S (l := pcs bk) (by rw [List.map_map]; exact hys) hso
    have hll := hl0.length_eq
    rw [List.length_map] at hll
    have kp1 : Kp [] H (upd H p (.lst ((l0.map SX.S).map V.str))) := (kp_refl H).up (.inl hp0)
    have hp1 : upd H p (.lst ((l0.map SX.S).map V.str)) p = some (.lst (l0.map tv)) := by rw [upd_same, List.map_map]; rfl
    generalize upd H p (.lst ((l0.map SX.S).map V.str)) = H1 at kp1 hp1
    refine ⟨p, rfl, ⟨_, SqL.of hp1⟩, fun D hD => ?_⟩
    have npD := ne_of_none hp1 hD
    refine comp_list l0 tv (fun t => decide (t.length = 1)) tv (fun acc => SqL.of (by rw [upd_ne npD]; exact hp1)) (by omega) ?_ ?_
    · intro t ht acc Nx hz h1 h2
      have := (pcs_len g (hl0.mem_iff.mp ht)).2
      refine ⟨rfl, _, rfl, _, rfl, by omega, rfl, _, rfl, ite2 (fun hc => ?_) (fun hc => ?_)⟩
      · have e : t.length = 1 := by
          have := V.int.inj (of_decide_eq_true hc)
          omega
        exact ⟨_, rfl, acc, upd_same, hz, by rw [upd_upd]; exact h1 (decide_eq_true e)⟩
      · refine h2 (decide_eq_false fun e => ?_)
        rw [e] at hc
        exact absurd hc (by decide)
    obtain ⟨cs, ecs, hcs, hcne, hcl⟩ := book_signs g hl0
    have hD0 := kp1.free hD (by simp)
    exact k D cs _ hD0 hcs hcne hcl (kp1.up (.inl hD0)) (by rw [upd_same, ecs, List.map_map]; rfl)
/-! ### a name, a part of a text -/
def sp_name : Sp := fun vs H Q _ => ∃ r : Addr, vs = [.ref r] ∧ Reel H r ∧ ∀ (t : Tx0) (H' : Hp), Lt t → 1 ≤ t.length → t.length ≤ 8 → Kp [r] H H' → Reel H' r → Q (tv t) H'
theorem c_name (T : Ty K mg CB CC CF) : C8.Cal P w K mg base 4 "_law_name" sp_name [] := by
  refine cal_of T.d_name sc_name (fun _ _ _ _ _ _ us hl => match us, hl with | [_], _ => rfl) (fun vs H Q E h => ?_) (fun cdv A outer f s H vs Q E hr h => ?_)
  · obtain ⟨r, rfl, _⟩ := h
    rfl
  · obtain ⟨r, rfl, hR, k⟩ := h
    have h3 : sizeLine = 16777216 := sizeLine_eq
    refine ⟨_, (pss_cons (ps_if (pt_cmpR op_eq (C8.pe_c (c_spin T.toTx) hr (by decide) (by rfl) (pa_cons (pv 0) (pa_cons pe_int pa_nil))) pe_int (nomark _))
    (pss_one (ps_ret (C8.pe_c (c_text T.toTx) hr (by decide) (by rfl) (pa_cons (pv 0) (pa_cons pe_str (pa_cons (pe_op op_add pe_int (C8.pe_c (c_spin T.toTx) hr (by decide) (by rfl) (pa_cons (pv 0) (pa_cons pe_int pa_nil)))) pa_nil))))))
    pss_nil)
  (pss_one (ps_ret (C8.pe_c (c_pick T.toTx) hr (by decide) (by rfl) (pa_cons (pv 0) (pa_cons (pe_lst (pa_cons pe_str (pa_cons pe_str (pa_cons pe_str (pa_cons pe_str (pa_cons pe_str (pa_cons pe_str (pa_cons pe_str pa_nil)))))))) pa_nil)))))), ?_⟩
    refine ⟨_, rfl, r, 5, rfl, hR, by decide, by decide, fun v x y z h0 h1 => ⟨rfl, _, rfl, ?_⟩⟩
    have k1 : Kp [r] H (upd H r (.lst [.int x, .int y, .int z])) := (kp_refl H).up (.inr (by simp))
    have hR1 : Reel (upd H r (.lst [.int x, .int y, .int z])) r := reel_same x y z
    generalize upd H r (.lst [.int x, .int y, .int z]) = H1 at k1 hR1
    refine ite2 (fun hc => ?_) (fun hc => ?_)
    · refine ⟨_, rfl, _, rfl, r, 8, rfl, hR1, by decide, by decide, fun v2 x y z h0 h1 => ?_⟩
      obtain ⟨m, rfl⟩ : ∃ m : Nat, v2 = m := ⟨v2.toNat, by omega⟩
      have k2 : Kp [r] H (upd H1 r (.lst [.int x, .int y, .int z])) := k1.up (.inr (by simp))
      refine ⟨_, _, rfl, rfl, r, tv abc, abc, 1 + m, by simp; rfl, reel_same x y z, .inl rfl, (fun e => by cases e), .inl (by decide), by decide, by omega, fun t H2 htl htc hk hR2 => ?_⟩
      exact k t H2 (fun c hc => abc_lt c (htc c hc)) (by omega) (by omega) (k2.trans hk) hR2
    · refine ⟨_, rfl, by show 7 ≤ sizeLine; omega, fun p hp => ?_⟩
      have k2 : Kp [r] H (upd H1 p (.lst [V.str (Str.ofString "a"), V.str (Str.ofString "ab"), V.str (Str.ofString "abcdefgh"), V.str (Str.ofString "b"), V.str (Str.ofString "text"), V.str (Str.ofString "none"), V.str (Str.ofString "zz")])) := k1.up (.inl (k1.free hp (by simpa using (hR1.ne hp).symm)))
      refine ⟨r, .ref p, _, rfl, reel_upd hR1 (hR1.ne hp), .inr ⟨p, rfl, SqL.of upd_same⟩, (fun e => hR1.ne hp (by cases e; rfl)), by simp, by show 7 ≤ 1000; omega, fun y a b c hy => ?_⟩
      have hall : ∃ t : Tx0, y = tv t ∧ t ∈ ([[97], [97, 98], [97, 98, 99, 100, 101, 102, 103, 104], [98], [116, 101, 120, 116], [110, 111, 110, 101], [122, 122]] : List Tx0) := by
        simp only [List.mem_cons, List.not_mem_nil, or_false] at hy
        rcases hy with e | e | e | e | e | e | e <;> subst e
        · exact ⟨[97], rfl, by simp⟩
        · exact ⟨[97, 98], rfl, by simp⟩
        · exact ⟨[97, 98, 99, 100, 101, 102, 103, 104], rfl, by simp⟩
        · exact ⟨[98], rfl, by simp⟩
        · exact ⟨[116, 101, 120, 116], rfl, by simp⟩
        · exact ⟨[110, 111, 110, 101], rfl, by simp⟩
        · exact ⟨[122, 122], rfl, by simp⟩
      obtain ⟨t, rfl, ht⟩ := hall
      have good : ∀ t ∈ ([[97], [97, 98], [97, 98, 99, 100, 101, 102, 103, 104], [98], [116, 101, 120, 116], [110, 111, 110, 101], [122, 122]] : List Tx0), (∀ c ∈ t, 97 ≤ c ∧ c ≤ 122) ∧ 1 ≤ t.length ∧ t.length ≤ 8 := by decide
      obtain ⟨g1, g2, g3⟩ := good t ht
      exact k t _ g1 g2 g3 (k2.up (.inr (by simp))) (reel_same a b c)
def sp_span : Sp := fun vs H Q _ => ∃ (r : Addr) (t : Tx0), vs = [.ref r, tv t] ∧ Reel H r ∧ t.length ≤ 8000 ∧
  ∀ (p : Addr) (a b : Nat) (H' : Hp), H p = none → a ≤ b → b ≤ t.length → Kp [r] H H' → Reel H' r → H' p = some (.tup [.int a, .int b]) → Q (.ref p) H'
theorem c_span (T : Ty K mg CB CC CF) : C8.Cal P w K mg base 2 "_law_span" sp_span [] := by
  refine cal_of T.d_span sc_span (fun _ _ _ _ _ _ us hl => match us, hl with | [_, _], _ => rfl) (fun vs H Q E h => ?_) (fun cdv A outer f s H vs Q E hr h => ?_)
  · obtain ⟨r, t, rfl, _⟩ := h
    rfl
  · obtain ⟨r, t, rfl, hR, hl, k⟩ := h
    have h3 : sizeLine = 16777216 := sizeLine_eq
    refine ⟨_, (pss_cons (ps_set (i := 2) sc_span.nd rfl (Or.inl rfl) (C8.pe_c (c_spin T.toTx) hr (by decide) (by rfl) (pa_cons (pv 0) (pa_cons (pe_op op_add (pe_callB call_lenT (by rfl) T.n_len (by decide +kernel) (pa_cons (pv 1) pa_nil)) pe_int) pa_nil))))
  (pss_one (ps_ret (pe_tup (pa_cons (pv 2) (pa_cons (pe_op op_add (pv 2) (C8.pe_c (c_spin T.toTx) hr (by decide) (by rfl) (pa_cons (pv 0) (pa_cons (pe_op op_add (pe_op op_sub (pe_callB call_lenT (by rfl) T.n_len (by decide +kernel) (pa_cons (pv 1) pa_nil)) (pv 2)) pe_int) pa_nil)))) pa_nil)))))), ?_⟩
    refine ⟨_, rfl, _, rfl, _, rfl, by omega, _, _, rfl, rfl, r, (t.length : Int) + 1, rfl, hR, by omega, by omega, fun v x y z h0 h1 => ?_⟩
    obtain ⟨m, rfl⟩ : ∃ m : Nat, v = m := ⟨v.toNat, by omega⟩
    have k1 : Kp [r] H (upd H r (.lst [.int x, .int y, .int z])) := (kp_refl H).up (.inr (by simp))
    have hR1 : Reel (upd H r (.lst [.int x, .int y, .int z])) r := reel_same x y z
    generalize upd H r (.lst [.int x, .int y, .int z]) = H1 at k1 hR1
    refine ⟨_, rfl, _, rfl, _, rfl, _, rfl, _, rfl, by omega, _, rfl, _, _, rfl, rfl, _, _, rfl, rfl, r, (t.length : Int) - m + 1, rfl, hR1, by omega, by omega, fun v2 x y z h2 h4 => ?_⟩
    obtain ⟨n, rfl⟩ : ∃ n : Nat, v2 = n := ⟨v2.toNat, by omega⟩
    have k2 : Kp [r] H (upd H1 r (.lst [.int x, .int y, .int z])) := k1.up (.inr (by simp))
    have hR2 : Reel (upd H1 r (.lst [.int x, .int y, .int z])) r := reel_same x y z
    generalize upd H1 r (.lst [.int x, .int y, .int z]) = H2 at k2 hR2
    refine ⟨_, _, rfl, rfl, by show 2 ≤ sizeLine; omega, fun p hp => ?_⟩
    have hp0 := k2.free hp (by simpa using (hR2.ne hp).symm)
    exact k p m (m + n) _ hp0 (by omega) (by omega) (k2.up (.inl hp0)) (reel_upd hR2 (hR2.ne hp)) upd_same
end
end K75
-- part S7
set_option Elab.async false
set_option linter.all false
set_option maxRecDepth 100000
set_option maxHeartbeats 4000000
namespace K75
open PySem PySem.Spec PyProof.Rows L2
/-! dicts compared, either way; d.update(e) -/
def rEqDB (g : Bool → Bool) : R2 := fun x y H Q => ∃ a b ks ls, x = .ref a ∧ y = .ref b ∧ H a = some (.dK ks) ∧ H b = some (.dK ls) ∧
  ((ks.length = ls.length ∧ (∀ p ∈ ks, valV ls p.1 = some p.2 ∧ flatB p.2 = true) ∧ Q (.bl (g true)) H) ∨ (ks.length ≠ ls.length ∧ Q (.bl (g false)) H))
section
variable {X : Cx}
theorem op_eq_dictB (hu : X.A.units < cLine) : OpR X (compareOp .Eq) (rEqDB id) := by
  intro pins s σ H x y v u Q I rx ry h
  obtain ⟨a, b, ks, ls, rfl, rfl, ea, eb, h⟩ := h
  obtain rfl : v = Value.ref a := rx
  obtain rfl : u = Value.ref b := ry
  obtain ⟨_, ya, va, ra, da⟩ := (show ObjOk X.prog X.w H s.heap a (.dK ks) from I.hok a _ ea)
  obtain ⟨_, yb, vb, rb, db⟩ := (show ObjOk X.prog X.w H s.heap b (.dK ls) from I.hok b _ eb)
  have la := ra.length
  have lb := rb.length
  rcases h with ⟨hlen, hp, q⟩ | ⟨hlen, q⟩
  · have hl : va.length = vb.length := by omega
    exact PySem.W.keq_eq (knd := mixKind X.prog X.w) (r := true) ya yb da db hu (fun _ => hits_all rb ra hp) (fin_bl I q (by simp [hl]))
  · have hl : ¬ va.length = vb.length := by omega
    exact PySem.W.keq_eq (knd := mixKind X.prog X.w) (r := true) ya yb da db hu (fun z => absurd z hl) (fin_bl I q (by simp [hl]))
theorem op_ne_dictB (hu : X.A.units < cLine) : OpR X (compareOp .NotEq) (rEqDB not) := by
  intro pins s σ H x y v u Q I rx ry h
  obtain ⟨a, b, ks, ls, rfl, rfl, ea, eb, h⟩ := h
  obtain rfl : v = Value.ref a := rx
  obtain rfl : u = Value.ref b := ry
  obtain ⟨_, ya, va, ra, da⟩ := (show ObjOk X.prog X.w H s.heap a (.dK ks) from I.hok a _ ea)
  obtain ⟨_, yb, vb, rb, db⟩ := (show ObjOk X.prog X.w H s.heap b (.dK ls) from I.hok b _ eb)
  have la := ra.length
  have lb := rb.length
  rcases h with ⟨hlen, hp, q⟩ | ⟨hlen, q⟩
  · have hl : va.length = vb.length := by omega
    exact PySem.W.keq_ne (knd := mixKind X.prog X.w) (r := true) ya yb da db hu (fun _ => hits_all rb ra hp) (fin_bl I q (by simp [hl]))
  · have hl : ¬ va.length = vb.length := by omega
    exact PySem.W.keq_ne (knd := mixKind X.prog X.w) (r := true) ya yb da db hu (fun z => absurd z hl) (fin_bl I q (by simp [hl]))
def rDUpd : V → List V → Hp → VK → Prop := fun x vs H Q => ∃ a b ks ls, x = .ref a ∧ vs = [.ref b] ∧ a ≠ b ∧ H a = some (.dK ks) ∧ H b = some (.dK ls) ∧ ks.length + ls.length ≤ sizeLine ∧ Q .non (upd H a (.dK (mergeK ks ls)))
theorem mt_dupdate : MtR X "dict.update" rDUpd := by
  intro pins s σ H x vs v us Q I rx rv h
  obtain ⟨a, b, ks, ls, rfl, rfl, ne, ha, hb, hz, q⟩ := h
  cases rx
  obtain ⟨u, rfl, ru⟩ := vals1 rv
  cases ru
  obtain ⟨_, ya, va, ra, da⟩ := (show ObjOk X.prog X.w H s.heap a (.dK ks) from I.hok a _ ha)
  obtain ⟨_, yb, vb, rb, db⟩ := (show ObjOk X.prog X.w H s.heap b (.dK ls) from I.hok b _ hb)
  have la := ra.length
  have lb := rb.length
  refine call_meetsIn PySem.F.slot_dict_update da.typeIs PySem.F.entry_dict_update (PySem.F.args_dict_update_2 _ _) (meets_dict_update (mixKind X.prog X.w) a b ne yb) ⟨va, vb, da, db, by omega, fun h' d' _ sb => ?_⟩
  have hlen : (mergeK ks ls).length ≤ sizeLine := Nat.le_trans (length_mergeK ls ks) hz
  have he : ∃ q, h'.get? a = some q := let ⟨q, _, _, hq, _⟩ := d'; ⟨q, hq⟩
  exact ⟨.non, _, d_write (t' := s.toks) I (by rw [ha]; exact True.intro) sb he (dk_new hlen ya (KV.merge rb ra) d'), rfl, q⟩
end
theorem dict_perm {β : Type} {f : β → V} {m n : List (Tx0 × β)} (p : m.Perm n) (nd : (n.map (·.1)).Nodup) (hf : ∀ v, flatB (f v) = true) : ∀ q ∈ dV f m, valV (dV f n) q.1 = some q.2 ∧ flatB q.2 = true := by
  intro q hq
  obtain ⟨r, hr, rfl⟩ := List.mem_map.mp hq
  refine ⟨?_, hf _⟩
  rw [valV_dV, getA_mem nd (show (r.1, r.2) ∈ n from p.mem_iff.mp hr)]
  rfl
section
variable {P : Program} {w : World} {K : PySem.W.Frag} {mg : Str → Option Value} {base : Heap} {CB CC CF : Addr}
def sp_BookE (CB : Addr) : Sp := fun vs H Q _ => ∃ (a b : Addr) (bk bl : Bk), vs = [.ref a, .ref b] ∧ BookH CB H a bk ∧ BookH CB H b bl ∧ bk.Perm bl ∧ Q (.bl true) H
theorem c_BookE (T : Ty K mg CB CC CF) : Spc P w K mg base 1 CB "__eq__" (sp_BookE CB) := by
  refine spc_of T.s_Book___eq__ sc_p_Book___eq__ (fun _ _ _ _ _ _ us hl => match us, hl with | [_, _], _ => rfl) (fun vs H Q E h => ?_) (fun cdv A outer f s H vs Q E hr h => ?_)
  · obtain ⟨a, b, bk, bl, rfl, _⟩ := h
    rfl
  · obtain ⟨a, b, bk, bl, rfl, ⟨dx, d, p0, al, ac, lg, de, b1⟩, ⟨dx2, d2, p2, al2, ac2, lg2, de2, b2⟩, hp, q⟩ := h
    refine ⟨_, (pss_one (ps_ret (pe_and (pe_callB (cr_isC T.is_Book) (by rfl) T.n_isinstance (by decide +kernel) (pa_cons (pv 1) (pa_cons (pe_glob (v := .ref CB) (by rfl) T.g_Book rfl) pa_nil))) (pe_one (pe_cmpR (op_eq_dictA hr.units0) (pe_fldK (K := K) rfl (pv 0)) (pe_fldK (K := K) rfl (pv 1)) (nomark _)))))), ?_⟩
    refine ⟨_, rfl, b, dx2, _, rfl, b2.ha, _, rfl, ?_⟩
    exact ⟨_, rfl, _, _, _, _, _, rfl, b1.ha, T.cl_Book, T.no_Book_own_prices, rfl, _, rfl, _, _, _, _, _, rfl, b2.ha, T.cl_Book, T.no_Book_own_prices, rfl, d, d2, dB bk, dB bl, rfl, rfl, b1.hd, b2.hd, by rw [dV_length, dV_length]; exact hp.length_eq, dict_perm hp b2.g.nd (fun _ => rfl), q⟩
/-- two cutters over one book, by one plan, but perhaps of two views -/
def sp_CutterE (CB CC : Addr) : Sp := fun vs H Q _ => ∃ (a b : Addr) (bk bl : Bk) (pl pm : Pl), vs = [.ref a, .ref b] ∧ CutH CB CC H a bk pl ∧ CutH CB CC H b bl pm ∧ bk.Perm bl ∧ pl.order = pm.order ∧ pl.rows = pm.rows ∧ pl.last = pm.last ∧ Q (.bl (decide (pl.span = pm.span))) H
theorem c_CutterE (T : Ty K mg CB CC CF) : Spc P w K mg base 3 CC "__eq__" (sp_CutterE CB CC) := by
  refine spc_of T.s_Cutter___eq__ sc_p_Cutter___eq__ (fun _ _ _ _ _ _ us hl => match us, hl with | [_, _], _ => rfl) (fun vs H Q E h => ?_) (fun cdv A outer f s H vs Q E hr h => ?_)
  · obtain ⟨a, b, bk, bl, pl, pm, rfl, _⟩ := h
    rfl
  · obtain ⟨a, b, bk, bl, pl, pm, rfl, ⟨dx, ab, o, tb, en, sz, rw0, la, ns, c⟩, ⟨dx2, ab2, o2, tb2, en2, sz2, rw2, la2, ns2, c2⟩, hp, e1, e2, e3, q⟩ := h
    refine ⟨_, (pss_cons (ps_if (pt_not (pt_val (pe_callB (cr_isC T.is_Cutter) (by rfl) T.n_isinstance (by decide +kernel) (pa_cons (pv 1) (pa_cons (pe_glob (v := .ref CC) (by rfl) T.g_Cutter rfl) pa_nil)))))
    (pss_one (ps_ret pe_bl))
    pss_nil)
  (pss_cons (ps_if (PW.pt (pw_or (pt_cmpR (op_neO (c_BookE T) T.ne_Book hr (by decide)) (pe_fldK (K := K) rfl (pv 0)) (pe_fldK (K := K) rfl (pv 1)) (nomark _)) (pw_or1 (pt_cmpR (op_neD hr.units) (pe_fldK (K := K) rfl (pv 0)) (pe_fldK (K := K) rfl (pv 1)) (nomark _)))))
    (pss_one (ps_ret pe_bl))
    pss_nil)
  (pss_one (ps_ret (pe_and (pe_cmpR op_eq (pe_fldK (K := K) rfl (pv 0)) (pe_fldK (K := K) rfl (pv 1)) (nomark _)) (pe_and (pe_cmpR (op_eq_dictA hr.units0) (pe_fldK (K := K) rfl (pv 0)) (pe_fldK (K := K) rfl (pv 1)) (nomark _)) (pe_one (pe_cmpR (op_eq_dictA hr.units0) (pe_fldK (K := K) rfl (pv 0)) (pe_fldK (K := K) rfl (pv 1)) (nomark _))))))))), ?_⟩
    have gp := c.gp
    have g := c.hb.g
    have hlt : ∀ t ∈ pl.order, Lt t := fun t ht => ov_lt g (pcs_ov g (gp.od.mem_iff.mp ht))
    have ho2 := c2.ho
    rw [← e1] at ho2
    obtain ⟨dxb, d, p0, al, ac, lg, de, b1⟩ := c.hb
    obtain ⟨dxb2, d2, p2, al2, ac2, lg2, de2, b2⟩ := c2.hb
    refine ⟨_, rfl, b, dx2, _, rfl, c2.ha, _, rfl, ?_⟩
    refine ⟨_, rfl, _, _, _, _, _, rfl, c.ha, T.cl_Cutter, T.no_Cutter_own_book, rfl, _, rfl, _, _, _, _, _, rfl, c2.ha, T.cl_Cutter, T.no_Cutter_own_book, rfl, ab, ab2, dxb, dxb2, _, _, rfl, rfl, b1.ha, b2.ha, ab, ab2, bk, bl, rfl, ⟨dxb, d, p0, al, ac, lg, de, b1⟩, ⟨dxb2, d2, p2, al2, ac2, lg2, de2, b2⟩, hp, true, rfl, _, rfl, ?_⟩
    refine ⟨_, rfl, _, _, _, _, _, rfl, c.ha, T.cl_Cutter, T.no_Cutter_own_order, rfl, _, rfl, _, _, _, _, _, rfl, c2.ha, T.cl_Cutter, T.no_Cutter_own_order, rfl, .tuple (dTx pl.order), .tuple (dTx pl.order), .tup (SqT.of c.ho) (texts_dp _), .tup (SqT.of ho2) (texts_dp _), shp_tup hlt, shp_tup hlt, _, rfl, ?_⟩
    rw [eqv_same (lay_tup hlt)]
    refine ⟨_, rfl, _, _, _, _, _, rfl, c.ha, T.cl_Cutter, T.no_Cutter_own_view, rfl, _, rfl, _, _, _, _, _, rfl, c2.ha, T.cl_Cutter, T.no_Cutter_own_view, rfl, rfl, _, rfl, ?_⟩
    by_cases hs : pl.span = pm.span
    · rw [decide_eq_true hs] at q
      refine iteT' (decide_eq_true (by rw [hs])) ?_
      have hpr : rw0.Perm rw2 := c.hpr.trans (by rw [e2]; exact c2.hpr.symm)
      have hpl : la.Perm la2 := c.hpl.trans (by rw [e3]; exact c2.hpl.symm)
      refine ⟨_, rfl, _, _, _, _, _, rfl, c.ha, T.cl_Cutter, T.no_Cutter_own_table, rfl, _, rfl, _, _, _, _, _, rfl, c2.ha, T.cl_Cutter, T.no_Cutter_own_table, rfl, tb, tb2, dV tv rw0, dV tv rw2, rfl, rfl, c.ht, c2.ht, by rw [dV_length, dV_length]; exact hpr.length_eq, dict_perm hpr ((c2.hpr.map _).nodup_iff.mpr c2.gp.rw.nd) (fun _ => rfl), _, rfl, ?_⟩
      exact ⟨_, rfl, _, _, _, _, _, rfl, c.ha, T.cl_Cutter, T.no_Cutter_own_ends, rfl, _, rfl, _, _, _, _, _, rfl, c2.ha, T.cl_Cutter, T.no_Cutter_own_ends, rfl, en, en2, dV tv la, dV tv la2, rfl, rfl, c.he, c2.he, by rw [dV_length, dV_length]; exact hpl.length_eq, dict_perm hpl ((c2.hpl.map _).nodup_iff.mpr c2.gp.la.nd) (fun _ => rfl), q⟩
    · rw [decide_eq_false hs] at q
      have hz : decide (V.int (pl.span : Int) = V.int (pm.span : Int)) = false := decide_eq_false fun e => hs (by have := V.int.inj e; omega)
      refine iteF' hz ?_
      exact q
end
end K75
-- part S8
set_option Elab.async false
set_option linter.all false
set_option maxRecDepth 100000
set_option maxHeartbeats 4000000
namespace K75
open PySem PySem.Spec PyProof.Rows L2
theorem cutV_from (xs : List V) (n : Nat) : cutV xs (some (n : Int)) none = xs.drop n := by
  unfold cutV
  rw [sIx_nat]
  show (xs.drop (min n xs.length)).take (xs.length - min n xs.length) = _
  by_cases h : n ≤ xs.length
  · rw [Nat.min_eq_left h, List.take_of_length_le (by rw [List.length_drop]; omega)]
  · rw [Nat.min_eq_right (by omega), List.drop_eq_nil_of_le (Nat.le_refl _), List.drop_eq_nil_of_le (by omega), List.take_nil]
theorem cutV_to (xs : List V) (n : Nat) : cutV xs none (some (n : Int)) = xs.take n := by
  unfold cutV
  rw [sIx_nat]
  show (xs.drop 0).take (min n xs.length - 0) = _
  rw [List.drop_zero, Nat.sub_zero]
  by_cases h : n ≤ xs.length
  · rw [Nat.min_eq_left h]
  · rw [Nat.min_eq_right (by omega), List.take_of_length_le (Nat.le_refl _), List.take_of_length_le (by omega)]
section
variable {P : Program} {w : World} {K : PySem.W.Frag} {mg : Str → Option Value} {base : Heap} {CB CC CF : Addr}
def sp_shared_start (K : PySem.W.Frag) : Sp := fun vs H Q _ => ∃ (a b : Addr) (xs ys : List Tx0), vs = [.ref a, .ref b] ∧ SqL K H a (xs.map tv) ∧ SqL K H b (ys.map tv) ∧
  ∀ (n : Nat) (H' : Hp), Kp [] H H' → n ≤ xs.length → n ≤ ys.length → xs.take n = ys.take n → Q (.int n) H'
theorem sqL_kp {H H' : Hp} {a : Addr} {xs : List V} (h : SqL K H a xs) (k : Kp [] H H') : SqL K H' a xs :=
  h.elim (fun h => .inl (h.elim (fun h => .inl (k _ _ h (by simp))) fun ⟨o, h⟩ => .inr ⟨o, k _ _ h (by simp)⟩)) fun h => .inr h
theorem c_p_shared_start (T : Ty K mg CB CC CF) : C8.Cal P w K mg base 1 "shared_start" (sp_shared_start K) [] := by
  refine cal_of T.d_p_shared_start sc_p_shared_start (fun _ _ _ _ _ _ us hl => match us, hl with | [_, _], _ => rfl) (fun vs H Q E h => ?_) (fun cdv A outer f s H vs Q E hr h => ?_)
  · obtain ⟨a, b, xs, ys, rfl, _⟩ := h
    rfl
  · obtain ⟨a, b, xs, ys, rfl, ha, hb, k⟩ := h
    have h3 : sizeLine = 16777216 := sizeLine_eq
    refine ⟨_, (pss_cons (ps_set (i := 2) sc_p_shared_start.nd rfl (Or.inl rfl) pe_int)
  (pss_cons (ps_for PassesOwn.never rfl (pi_zip (by rfl) T.n_zip (pa_cons (pv 0) (pa_cons (pv 1) pa_nil))) (pg_tupK (K := K) (n := 2) rfl (by rfl) (pgs_cons (pg_name (i := 3) sc_p_shared_start.nd rfl (Or.inl rfl)) (pgs_cons (pg_name (i := 4) sc_p_shared_start.nd rfl (Or.inl rfl)) pgs_nil)))
    (pss_cons (ps_if (pt_cmpR op_ne (pv 3) (pv 4) (nomark _))
      (pss_one ps_break)
      pss_nil)
    (pss_one (ps_aug (i := 2) sc_p_shared_start.nd rfl (Or.inl rfl) pe_int ip_add))))
  (pss_one (ps_ret (pv 2))))), ?_⟩
    refine ⟨_, rfl, _, rfl, a, b, _, _, rfl, ha, hb, ?_⟩
    refine for_it (walk_zip (K := K) (a := a) (b := b) (xs := xs.map tv) (ys := ys.map tv) rfl) (fun i σ H' => ∃ x3 x4 : Option V, σ = [some (.ref a), some (.ref b), some (.int (i : Int)), x3, x4] ∧ Kp [] H H' ∧ xs.take i = ys.take i)
      ⟨none, none, rfl, kp_refl H, by simp⟩ (fun i σ H' _ ⟨_, _, _, hk, _⟩ => ⟨sqL_kp ha hk, sqL_kp hb hk⟩) ?_ ?_
    · rintro i x σ H1 H2 hi ⟨x3, x4, rfl, hk, he⟩ ⟨Tp, x, y, rfl, hT, rfl, hx, hy⟩
      rw [List.length_map, List.length_map] at hi
      have hx' : (xs.map tv)[i]? = some x := hx
      have hy' : (ys.map tv)[i]? = some y := hy
      rw [List.getElem?_map] at hx' hy'
      obtain ⟨u, hu, rfl⟩ := Option.map_eq_some_iff.mp hx'
      obtain ⟨v, hv, rfl⟩ := Option.map_eq_some_iff.mp hy'
      have hk2 : Kp [] H (upd H1 Tp (.tup [tv u, tv v])) := hk.up (.inl (hk.free hT (by simp)))
      refine ⟨Tp, _, rfl, SqT.of upd_same, rfl, _, _, rfl, _, _, rfl, rfl, ?_⟩
      refine ⟨_, rfl, _, rfl, rfl, _, rfl, ite2 (fun hc => ?_) (fun hc => ?_)⟩
      · exact ⟨_, rfl, k i _ hk2 (by omega) (by omega) he⟩
      · have e : u = v := by
          by_cases z : u = v
          · exact z
          · exfalso
            apply hc
            rw [decide_eq_false (fun z2 => z (SX.S_inj (V.str.inj z2)))]
            rfl
        refine ⟨_, rfl, _, _, rfl, rfl, ?_⟩
        refine ⟨_, _, rfl, hk2, ?_⟩
        rw [List.take_add_one, List.take_add_one, he, hu, hv, e]
    · rintro σ H1 ⟨x3, x4, rfl, hk, he⟩
      rw [List.length_map, List.length_map] at he
      refine ⟨_, rfl, ?_⟩
      rw [List.length_map, List.length_map]
      exact k _ H1 hk (by omega) (by omega) he
/-- what becomes of a cut: equal pieces in front, equal pieces behind -/
def Came (o n gone came : List Tx0) : Prop := ∃ pre suf, o = pre ++ gone ++ suf ∧ n = pre ++ came ++ suf
theorem came_of {o n : List Tx0} {i e : Nat} (hi1 : i ≤ o.length) (hi2 : i ≤ n.length) (h1 : o.take i = n.take i) (he1 : e ≤ (o.drop i).length) (he2 : e ≤ (n.drop i).length) (h2 : (o.drop i).reverse.take e = (n.drop i).reverse.take e) :
    Came o n ((o.drop i).take ((o.drop i).length - e)) ((n.drop i).take ((n.drop i).length - e)) := by
  refine ⟨o.take i, (o.drop i).drop ((o.drop i).length - e), ?_, ?_⟩
  · rw [List.append_assoc, List.take_append_drop, List.take_append_drop]
  · have e3 : (o.drop i).drop ((o.drop i).length - e) = (n.drop i).drop ((n.drop i).length - e) := by
      have a1 := congrArg List.reverse h2
      rw [List.reverse_take, List.reverse_take, List.reverse_reverse, List.reverse_reverse, List.length_reverse, List.length_reverse] at a1
      exact a1
    rw [e3, h1, List.append_assoc, List.take_append_drop, List.take_append_drop]
def sp_cuts_compared (CB CC : Addr) : Sp := fun vs H Q _ => ∃ (c : Addr) (bk : Bk) (pl : Pl) (t u : Tx0), vs = [.ref c, tv t, tv u] ∧ CutH CB CC H c bk pl ∧ Ov bk t ∧ Ov bk u ∧ t.length ≤ 8000 ∧ u.length ≤ 8000 ∧
  ∀ (z g m : Addr) (n : Nat) (gone came : List Tx0) (H' : Hp), H z = none → Kp [] H H' → Came (cutM pl t) (cutM pl u) gone came → H' z = some (.tup [.int n, .ref g, .ref m]) → H' g = some (.tup (gone.map tv)) → H' m = some (.tup (came.map tv)) → Q (.ref z) H'
theorem c_p_cuts_compared (T : Ty K mg CB CC CF) : C8.Cal P w K mg base 3 "cuts_compared" (sp_cuts_compared CB CC) [] := by
  refine cal_of T.d_p_cuts_compared sc_p_cuts_compared (fun _ _ _ _ _ _ us hl => match us, hl with | [_, _, _], _ => rfl) (fun vs H Q E h => ?_) (fun cdv A outer f s H vs Q E hr h => ?_)
  · obtain ⟨c, bk, pl, t, u, rfl, _⟩ := h
    rfl
  · obtain ⟨c, bk, pl, t, u, rfl, ⟨dx, ab, o, tb, en, sz, rw0, la, ns, ca⟩, ht, hu, htl, hul, k⟩ := h
    have h3 : sizeLine = 16777216 := sizeLine_eq
    have hc : ∀ {H' : Hp}, Kp [] H H' → CutH CB CC H' c bk pl := fun kk => ⟨dx, ab, o, tb, en, sz, rw0, la, ns, ca.kp0 kk⟩
    refine ⟨_, (pss_cons (ps_par (i := 3) (j := 4) (by rfl) sc_p_cuts_compared.nd rfl rfl (by decide) rfl rfl (pa_cons (C8.pe_mt (c_Cutter_cut_in T) hr (by decide) (pv 0) (pa_cons (pv 1) pa_nil)) (pa_cons (C8.pe_mt (c_Cutter_cut_in T) hr (by decide) (pv 0) (pa_cons (pv 2) pa_nil)) pa_nil)) (by rfl))
  (pss_cons (ps_set (i := 5) sc_p_cuts_compared.nd rfl (Or.inl rfl) (C8.pe_c (c_p_shared_start T) hr (by decide) (by rfl) (pa_cons (pv 3) (pa_cons (pv 4) pa_nil))))
  (pss_cons (ps_par (i := 3) (j := 4) (by rfl) sc_p_cuts_compared.nd rfl rfl (by decide) rfl rfl (pa_cons (pe_slice sl_list (pv 3) (po_some (pv 5)) po_none) (pa_cons (pe_slice sl_list (pv 4) (po_some (pv 5)) po_none) pa_nil)) (by rfl))
  (pss_cons (ps_set (i := 6) sc_p_cuts_compared.nd rfl (Or.inl rfl) (C8.pe_c (c_p_shared_start T) hr (by decide) (by rfl) (pa_cons (pe_revL (pv 3)) (pa_cons (pe_revL (pv 4)) pa_nil))))
  (pss_one (ps_ret (pe_tup (pa_cons (pv 5) (pa_cons (pe_callTy call_tuple_of (by rfl) T.n_tuple (by decide +kernel) (pa_cons (pe_slice sl_list (pv 3) po_none (po_some (pe_op op_sub (pe_callB call_len_seq (by rfl) T.n_len (by decide +kernel) (pa_cons (pv 3) pa_nil)) (pv 6)))) pa_nil)) (pa_cons (pe_callTy call_tuple_of (by rfl) T.n_tuple (by decide +kernel) (pa_cons (pe_slice sl_list (pv 4) po_none (po_some (pe_op op_sub (pe_callB call_len_seq (by rfl) T.n_len (by decide +kernel) (pa_cons (pv 4) pa_nil)) (pv 6)))) pa_nil)) pa_nil)))))))))), ?_⟩
    refine ⟨_, rfl, c, dx, _, rfl, ca.ha, rfl, _, rfl, c, bk, pl, t, rfl, hc (kp_refl H), ht, htl, fun f1 H1 hf1 hk1 hv1 => ?_⟩
    refine ⟨_, rfl, c, dx, _, rfl, (ca.kp0 hk1).ha, rfl, _, rfl, c, bk, pl, u, rfl, hc hk1, hu, hul, fun f2 H2 hf2 hk2 hv2 => ⟨_, _, rfl, ?_⟩⟩
    have hv1' := hk2 _ _ hv1 (by simp)
    refine ⟨_, rfl, _, rfl, f1, f2, cutM pl t, cutM pl u, rfl, SqL.of hv1', SqL.of hv2, fun n H3 hk3 hn1 hn2 hn3 => ?_⟩
    have ha3 := hk3 _ _ hv1' (by simp)
    have hb3 := hk3 _ _ hv2 (by simp)
    have kA : Kp [] H H3 := (hk1.trans hk2).trans hk3
    refine ⟨_, rfl, _, rfl, _, rfl, f1, _, rfl, SqL.of ha3, fun g1 hg1 => ?_⟩
    rw [cutV_from]
    have kB : Kp [] H3 (upd H3 g1 (.lst (((cutM pl t).map tv).drop n))) := (kp_refl H3).up (.inl hg1)
    have hg1' : upd H3 g1 (.lst (((cutM pl t).map tv).drop n)) g1 = some (.lst (((cutM pl t).drop n).map tv)) := by rw [upd_same, List.map_drop]
    generalize upd H3 g1 (.lst (((cutM pl t).map tv).drop n)) = H4 at kB hg1'
    refine ⟨_, rfl, _, rfl, _, rfl, f2, _, rfl, SqL.of (kB _ _ hb3 (by simp)), fun g2 hg2 => ⟨_, _, rfl, ?_⟩⟩
    rw [cutV_from]
    have kC : Kp [] H4 (upd H4 g2 (.lst (((cutM pl u).map tv).drop n))) := (kp_refl H4).up (.inl hg2)
    have hg2' : upd H4 g2 (.lst (((cutM pl u).map tv).drop n)) g2 = some (.lst (((cutM pl u).drop n).map tv)) := by rw [upd_same, List.map_drop]
    have hg1'' := kC _ _ hg1' (by simp)
    generalize upd H4 g2 (.lst (((cutM pl u).map tv).drop n)) = H5 at kC hg2' hg1''
    refine ⟨_, rfl, g1, _, rfl, SqL.of hg1'', fun r1 hr1 => ?_⟩
    have kD : Kp [] H5 (upd H5 r1 (.lst (((cutM pl t).drop n).map tv).reverse)) := (kp_refl H5).up (.inl hr1)
    have hr1' : upd H5 r1 (.lst (((cutM pl t).drop n).map tv).reverse) r1 = some (.lst (((cutM pl t).drop n).reverse.map tv)) := by rw [upd_same, List.map_reverse]
    generalize upd H5 r1 (.lst (((cutM pl t).drop n).map tv).reverse) = H6 at kD hr1'
    refine ⟨_, rfl, g2, _, rfl, SqL.of (kD _ _ hg2' (by simp)), fun r2 hr2 => ?_⟩
    have kE : Kp [] H6 (upd H6 r2 (.lst (((cutM pl u).drop n).map tv).reverse)) := (kp_refl H6).up (.inl hr2)
    have hr2' : upd H6 r2 (.lst (((cutM pl u).drop n).map tv).reverse) r2 = some (.lst (((cutM pl u).drop n).reverse.map tv)) := by rw [upd_same, List.map_reverse]
    have hr1'' := kE _ _ hr1' (by simp)
    generalize upd H6 r2 (.lst (((cutM pl u).drop n).map tv).reverse) = H7 at kE hr2' hr1''
    refine ⟨r1, r2, ((cutM pl t).drop n).reverse, ((cutM pl u).drop n).reverse, rfl, SqL.of hr1'', SqL.of hr2', fun m H8 hk8 hm1 hm2 hm3 => ?_⟩
    rw [List.length_reverse] at hm1 hm2
    have kDE := (kD.trans kE).trans hk8
    have a8 := kDE _ _ hg1'' (by simp)
    have b8 := kDE _ _ hg2' (by simp)
    have k8 : Kp [] H H8 := ((kA.trans kB).trans kC).trans kDE
    clear kD kE hk8 kA kB kC
    refine ⟨_, rfl, _, rfl, _, rfl, g1, _, rfl, .inl (SqL.of a8), _, rfl, _, _, rfl, rfl, _, rfl, g1, _, rfl, SqL.of a8, fun s1 hs1 => ?_⟩
    have el : ((((cutM pl t).drop n).map tv).length : Int) - (m : Int) = ((((cutM pl t).drop n).length - m : Nat) : Int) := by rw [List.length_map]; omega
    rw [el, cutV_to]
    have kF : Kp [] H8 (upd H8 s1 (.lst ((((cutM pl t).drop n).map tv).take (((cutM pl t).drop n).length - m)))) := (kp_refl H8).up (.inl hs1)
    have hs1' : upd H8 s1 (.lst ((((cutM pl t).drop n).map tv).take (((cutM pl t).drop n).length - m))) s1 = some (.lst ((((cutM pl t).drop n).take (((cutM pl t).drop n).length - m)).map tv)) := by rw [upd_same, List.map_take]
    generalize upd H8 s1 (.lst ((((cutM pl t).drop n).map tv).take (((cutM pl t).drop n).length - m))) = H9 at kF hs1'
    refine ⟨s1, _, rfl, .inl ⟨SqL.of hs1', fun q1 hq1 => ?_⟩⟩
    have kG := kF.up (o := .tup ((((cutM pl t).drop n).take (((cutM pl t).drop n).length - m)).map tv)) (.inl (kF.free hq1 (by simp)))
    have hq1' : upd H9 q1 (.tup ((((cutM pl t).drop n).take (((cutM pl t).drop n).length - m)).map tv)) q1 = some (.tup ((((cutM pl t).drop n).take (((cutM pl t).drop n).length - m)).map tv)) := upd_same
    generalize upd H9 q1 (.tup ((((cutM pl t).drop n).take (((cutM pl t).drop n).length - m)).map tv)) = H10 at kG hq1'
    have b10 := kG _ _ b8 (by simp)
    refine ⟨_, rfl, _, rfl, g2, _, rfl, .inl (SqL.of b10), _, rfl, _, _, rfl, rfl, _, rfl, g2, _, rfl, SqL.of b10, fun s2 hs2 => ?_⟩
    have el2 : ((((cutM pl u).drop n).map tv).length : Int) - (m : Int) = ((((cutM pl u).drop n).length - m : Nat) : Int) := by rw [List.length_map]; omega
    rw [el2, cutV_to]
    have kH : Kp [] H10 (upd H10 s2 (.lst ((((cutM pl u).drop n).map tv).take (((cutM pl u).drop n).length - m)))) := (kp_refl H10).up (.inl hs2)
    have hs2' : upd H10 s2 (.lst ((((cutM pl u).drop n).map tv).take (((cutM pl u).drop n).length - m))) s2 = some (.lst ((((cutM pl u).drop n).take (((cutM pl u).drop n).length - m)).map tv)) := by rw [upd_same, List.map_take]
    generalize upd H10 s2 (.lst ((((cutM pl u).drop n).map tv).take (((cutM pl u).drop n).length - m))) = H11 at kH hs2'
    refine ⟨s2, _, rfl, .inl ⟨SqL.of hs2', fun q2 hq2 => ?_⟩⟩
    have kI := kH.up (o := .tup ((((cutM pl u).drop n).take (((cutM pl u).drop n).length - m)).map tv)) (.inl (kH.free hq2 (by simp)))
    have hq2' : upd H11 q2 (.tup ((((cutM pl u).drop n).take (((cutM pl u).drop n).length - m)).map tv)) q2 = some (.tup ((((cutM pl u).drop n).take (((cutM pl u).drop n).length - m)).map tv)) := upd_same
    generalize upd H11 q2 (.tup ((((cutM pl u).drop n).take (((cutM pl u).drop n).length - m)).map tv)) = H12 at kI hq2'
    have q1b := kI _ _ hq1' (by simp)
    refine ⟨by show 3 ≤ sizeLine; omega, fun z hz => ?_⟩
    have kJ := (k8.trans kG).trans kI
    have z0 := kJ.free hz (by simp)
    exact k z q1 q2 n _ _ _ z0 (kJ.up (.inl z0)) (came_of hn1 hn2 hn3 hm1 hm2 hm3) upd_same (by rw [upd_ne (ne_of_none q1b hz)]; exact q1b) (by rw [upd_ne (ne_of_none hq2' hz)]; exact hq2')
def sp_recut (CB CC : Addr) : Sp := fun vs H Q _ => ∃ (c : Addr) (bk : Bk) (pl : Pl) (t u : Tx0) (a b : Nat), vs = [.ref c, tv t, .int a, .int b, tv u] ∧ CutH CB CC H c bk pl ∧ Ov bk t ∧ Ov bk u ∧ a ≤ b ∧ b ≤ t.length ∧ t.length + u.length ≤ 8000 ∧
  ∀ (z g m : Addr) (n : Nat) (gone came : List Tx0) (H' : Hp), H z = none → Kp [] H H' → Came (cutM pl t) (cutM pl (t.take a ++ u ++ t.drop b)) gone came → H' z = some (.tup [.int n, .ref g, .ref m]) → H' g = some (.tup (gone.map tv)) → H' m = some (.tup (came.map tv)) → Q (.ref z) H'
theorem c_p_recut (T : Ty K mg CB CC CF) : C8.Cal P w K mg base 5 "recut" (sp_recut CB CC) [] := by
  refine cal_of T.d_p_recut sc_p_recut (fun _ _ _ _ _ _ us hl => match us, hl with | [_, _, _, _, _], _ => rfl) (fun vs H Q E h => ?_) (fun cdv A outer f s H vs Q E hr h => ?_)
  · obtain ⟨c, bk, pl, t, u, a, b, rfl, _⟩ := h
    rfl
  · obtain ⟨c, bk, pl, t, u, a, b, rfl, ⟨dx, ab, o, tb, en, sz, rw0, la, ns, ca⟩, ht, hu, hab, hb, htl, k⟩ := h
    have h3 : sizeLine = 16777216 := sizeLine_eq
    refine ⟨_, (pss_cons (ps_expr (C8.pe_c (c_p_require_cutter T) hr (by decide) (by rfl) (pa_cons (pv 0) pa_nil)))
  (pss_cons (ps_expr (C8.pe_c (c_p_require_text T) hr (by decide) (by rfl) (pa_cons (pe_fldK (K := K) rfl (pv 0)) (pa_cons (pv 1) pa_nil))))
  (pss_cons (ps_if (pt_not (pt_val (C8.pe_c (c_p_is_integer_within T) hr (by decide) (by rfl) (pa_cons (pv 2) (pa_cons pe_int (pa_cons (pe_callB call_lenT (by rfl) T.n_len (by decide +kernel) (pa_cons (pv 1) pa_nil)) pa_nil))))))
    (pss_one ps_never)
    pss_nil)
  (pss_cons (ps_if (pt_not (pt_val (C8.pe_c (c_p_is_integer_within T) hr (by decide) (by rfl) (pa_cons (pv 3) (pa_cons (pv 2) (pa_cons (pe_callB call_lenT (by rfl) T.n_len (by decide +kernel) (pa_cons (pv 1) pa_nil)) pa_nil))))))
    (pss_one ps_never)
    pss_nil)
  (pss_cons (ps_expr (C8.pe_c (c_p_require_text T) hr (by decide) (by rfl) (pa_cons (pe_fldK (K := K) rfl (pv 0)) (pa_cons (pv 4) pa_nil))))
  (pss_cons (ps_if (pt_cmpR op_gt (pe_op op_add (pe_op op_sub (pe_callB call_lenT (by rfl) T.n_len (by decide +kernel) (pa_cons (pv 1) pa_nil)) (pe_op op_sub (pv 3) (pv 2))) (pe_callB call_lenT (by rfl) T.n_len (by decide +kernel) (pa_cons (pv 4) pa_nil))) (C8.pe_gc (v := .int 8000) (by rfl) (gi T.g_MAX_SIGNS)) (nomark _))
    (pss_one ps_never)
    pss_nil)
  (pss_one (ps_ret (C8.pe_c (c_p_cuts_compared T) hr (by decide) (by rfl) (pa_cons (pv 0) (pa_cons (pv 1) (pa_cons (pe_op op_add_str (pe_op op_add_str (pe_slice sl_tx (pv 1) po_none (po_some (pv 2))) (pv 4)) (pe_slice sl_tx (pv 1) (po_some (pv 3)) po_none)) pa_nil)))))))))))), ?_⟩
    refine ⟨_, rfl, c, dx, _, rfl, ca.ha, ?_⟩
    refine ⟨_, rfl, _, _, _, _, _, rfl, ca.ha, T.cl_Cutter, T.no_Cutter_own_book, rfl, _, rfl, ab, bk, t, rfl, ca.hb, ht, by omega, fun H1 hk1 => ?_⟩
    have c1 := ca.kp0 hk1
    refine ⟨_, rfl, _, rfl, _, rfl, by omega, _, _, _, rfl, by omega, by omega, by omega, by omega, _, rfl, ?_⟩
    refine ⟨_, rfl, _, rfl, _, rfl, _, rfl, by omega, _, _, _, rfl, by omega, by omega, by omega, by omega, _, rfl, ?_⟩
    refine ⟨_, rfl, _, _, _, _, _, rfl, c1.ha, T.cl_Cutter, T.no_Cutter_own_book, rfl, _, rfl, ab, bk, u, rfl, c1.hb, hu, by omega, fun H2 hk2 => ?_⟩
    have c2 := c1.kp0 hk2
    refine ⟨_, rfl, _, rfl, by omega, _, rfl, _, rfl, _, _, rfl, rfl, _, _, rfl, rfl, _, rfl, _, rfl, by omega, _, _, rfl, rfl, _, _, rfl, rfl, _, rfl, ?_⟩
    refine iteF' (decide_eq_false (by omega)) ?_
    refine ⟨_, rfl, _, rfl, _, rfl, _, rfl, _, rfl, _, rfl, by omega, .inl ⟨rfl, a, rfl, ?_⟩⟩
    refine ⟨_, rfl, _, _, rfl, rfl, ?_, ?_⟩
    · rw [SX.S_len, SX.S_len, List.length_take]
      omega
    rw [SX.S_cat]
    refine ⟨_, rfl, _, rfl, _, rfl, _, rfl, by omega, .inr (.inl ⟨rfl, b, rfl, ?_⟩)⟩
    refine ⟨_, _, rfl, rfl, ?_, ?_⟩
    · rw [SX.S_len, SX.S_len, List.length_append, List.length_take, List.length_drop]
      omega
    rw [SX.S_cat]
    have hk := hk1.trans hk2
    refine ⟨c, bk, pl, t, t.take a ++ u ++ t.drop b, rfl, ⟨dx, ab, o, tb, en, sz, rw0, la, ns, c2⟩, ht, ov_app (ov_app (ov_take ht _) hu) (ov_drop ht _), by omega, ?_, fun z g m n gone came H' hz hk3 hcm h1 h2 h4 => k z g m n gone came H' (hk.free hz (by simp)) (hk.trans hk3) hcm h1 h2 h4⟩
    rw [List.length_append, List.length_append, List.length_take, List.length_drop]
    omega
end
end K75
-- part W1
set_option Elab.async false
set_option linter.all false
set_option maxRecDepth 100000
set_option maxHeartbeats 4000000
namespace PySem
open Sem (wp)
namespace F
theorem slot_function_getattribute : Slot "function" "__getattribute__" "object.__getattribute__" := .of (owner := "object") (n := "__getattribute__") (by rw [typeLookup_type, builtinLookup_eq_fast]; kernel_rfl) (by decide +kernel) (by decide +kernel) (by decide +kernel)
    (by first | exact .inl (by decide +kernel) | exact .inr (by decide +kernel)) (by rw [isSubtype_type]; kernel_rfl)
theorem lk_function_class : typeLookup (.type "function") "__class__" = pure (some (.builtin "object.__class__")) := by rw [typeLookup_type, builtinLookup_eq_fast]; kernel_rfl
theorem sub_function_class_owner : isSubtype (.type "function") (.type (".".intercalate ("object.__class__".cutAt '.').dropLast)) = pure true := by
  rw [owner_object_class, isSubtype_type]; kernel_rfl
end F
section
variable {prog : Program} {w : World} {A : Around} {E : Value → Shared → Prop} {h : Heap} {g : Array GenState} {d : Drawn} {t : Nat} {os : OsState} {a : Addr} {o : Obj}
theorem class_call_fun {tk : Tok} {R : Result → Shared → Prop} (hx : h.get? a = some o) (hc : o.cls = .type "function") (hq : R (.ok (.ret (.type "function"))) ⟨h, g, d, t, os⟩) :
    codeAny (model prog w) A (.call (.builtin "object.__getattribute__") ⟨[.ref a, .str "__class__" tk], []⟩) R ⟨h, g, d, t, os⟩ :=
  codeAny_call_builtin F.slot_function_getattribute.plain F.entry_object_getattribute (F.slot_function_getattribute.check _ _ _ _ _ _ _ _ (show (⟨h, g, d, t, os⟩ : Shared).TypeIs (.ref a) "function" from ⟨_, hx, hc⟩) (F.args_object_getattribute_2 _ _) (class_entry_exc F.lk_function_class F.sub_function_class_owner (by decide) hx hc hq))
theorem class_by_fun {tk : Tok} {Q : Value → Shared → Prop} (hx : h.get? a = some o) (hc : o.cls = .type "function") (hq : Q (.type "function") ⟨h, g, d, t, os⟩) : wpAny (model prog w) A (getAttrBy (.ref a) (.str "__class__" tk) false) Q E ⟨h, g, d, t, os⟩ := by
  have hT : (⟨h, g, d, t, os⟩ : Shared).TypeIs (.ref a) "function" := ⟨_, hx, hc⟩
  have f2 := F.slot_function_getattribute.lookup
  have f3 := F.slot_function_getattribute.bind (.ref a)
  repeat (any_goals (first | assumption | wp_step))
  refine class_call_fun hx hc ?_
  repeat (any_goals (first | assumption | wp_step))
theorem class_attr_fun {Q : Option Value → Shared → Prop} (hx : h.get? a = some o) (hc : o.cls = .type "function") (hq : Q (some (.type "function")) ⟨h, g, d, t + 1, os⟩) : wpAny (model prog w) A (getAttr? (.ref a) "__class__") Q E ⟨h, g, d, t, os⟩ := by
  unfold getAttr? getAttrBy?
  repeat (any_goals (first | assumption | with_reducible apply class_by_fun hx hc | wp_step))
end
namespace W
theorem kitx_fun {K : Frag} {a : Addr} : KitX K (.ref a) (.type "function") (KitAt a "function") := kitx_of kitAt_ty (fun {_ _ _ _ _ s} p k => by obtain ⟨h, g, d, t, os⟩ := s; obtain ⟨o, h1, h2⟩ := p; exact class_attr_fun h1 h2 k)
end W
end PySem
namespace K75
open PySem PySem.Spec PyProof.Rows L2
/-! lambdas that are kept -/
structure LF where
  qual : Str
  params : Arguments
  body : Expr
  scope : Scope
  cl : List (Str × Addr)
  c : Addr
abbrev LF.obj (L : LF) (pm ctv : Value) : Obj := PySem.W.kla_obj "<lambda>" L.qual L.params L.body L.scope L.cl pm L.c ctv
/-- the object at f is the lambda L -/
def LamO (f : Addr) (L : LF) : HO := .ext fun h => ∃ pm ctv : Value, h.get? f = some (L.obj pm ctv)
theorem lamO_at {P : Program} {w : World} {H : Hp} {h : Heap} {f : Addr} {L : LF} (hok : HOk P w H h) (e : H f = some (LamO f L)) : ∃ pm ctv : Value, h.get? f = some (L.obj pm ctv) := by
  obtain ⟨z, _, _⟩ := hok f _ e
  exact z
/-- isinstance(f, (c1, c2, ..)) of such a lambda -/
def rIsiF (K : PySem.W.Frag) : List V → Hp → VK → Prop := fun xs H Q => ∃ (f : Addr) (L : LF) (tp : Addr) (cs : List V) (us : List Value) (b : Bool), xs = [.ref f, .ref tp] ∧ H f = some (LamO f L) ∧ H tp = some (.tup cs) ∧ Paired ClsV cs us ∧ PySem.W.kitAny K (.type "function") us = some b ∧ Q (.bl b) H
section
variable {X : Cx}
theorem call_isiF : CallR X (.builtin "isinstance") (rIsiF X.K) := by
  intro pins s σ H xs us Q I r h
  obtain ⟨f, L, tp, cs, ws, b, rfl, hf, hT, k, e, q⟩ := h
  obtain ⟨u1, u2, rfl, r1, r2⟩ := vals2 r
  cases (show u2 = Value.ref tp from r2)
  cases (show u1 = Value.ref f from r1)
  obtain ⟨pm, ctv, ho⟩ := lamO_at I.hok hf
  obtain ⟨_, its, rv, o, h1, h2, n, h3⟩ := (show ObjOk X.prog X.w H s.heap tp (.tup cs) from I.hok tp _ hT)
  have e3 := ClsV.all k rv
  subst e3
  obtain ⟨oc, od, dt, sl⟩ := o
  simp only at h2 h3
  subst h2 h3
  exact PySem.W.kia_tup PySem.W.kitx_fun I.kIn ⟨_, ho, rfl⟩ h1 e (fun z => nomatch z) fun tk => ⟨.bl b, H, I.tok tk, rfl, q⟩
end
section
variable {X : Cx} {pins : List (Addr × Obj)} {σ : L2.St} {H : Hp} {s : Shared}
theorem inv_lam {L : LF} {o : Obj} {t' : Nat} {pm ctv : Value} (I : Inv X pins σ H s) (ho : o = L.obj pm ctv) : Inv X pins σ (upd H s.heap.objs.size (LamO s.heap.objs.size L)) { s with heap := s.heap.push o, toks := t' } := by
  subst ho
  refine I.laid (a := s.heap.objs.size) (fun b u e => Heap.get?_push_of_some _ e) (Nat.le_refl _) ?_
  have e : (s.heap.push (L.obj pm ctv)).get? s.heap.objs.size = some (L.obj pm ctv) := Heap.get?_push_size _ rfl
  exact ⟨⟨pm, ctv, e⟩, ⟨_, e⟩, fun h1 h2 ⟨p, c, z⟩ st => ⟨p, c, st _ z⟩⟩
/-- the lambda is made, and known from now on -/
theorem lam_makeK {T : List (Addr × Str)} {c P : Addr} {params : Arguments} {body : Expr} {scope : Scope} {pos : Pos} {E : Value → Shared → Prop} {Q : Value → Shared → Prop} (I : Inv X pins σ H s) (TB : LamX.TabB X.base X.mg c P) (hcode : X.env.code = .ref c)
    (hm : (P, X.env.qual ++ "<lambda>") ∈ T) (hu : ∀ p ∈ T, p.1 = P → p.2 = X.env.qual ++ "<lambda>") (hT : LamX.Tabs T H) (hdef : defaultsOf params X.env = ([], [])) (hfree : ∀ y ∈ scope.names, y.2 = .free → ∃ c, X.env.cells.lookup y.1 = some c)
    (h : ∀ (f c' : Addr) (H1 : Hp) (s' : Shared), Inv X pins σ H1 s' → LamX.ExtN H H1 → LamX.Tabs T H1 → H f = none → H1 f = some (LamO f ⟨X.env.qual ++ "<lambda>", params, body, scope, cloFrom X.env.cells scope.names [], c'⟩) → H1 c' = some (LamX.CodeO c' (X.env.qual ++ "<lambda>")) → Q (.ref f) s') :
    wpAny (model X.prog X.w) X.A (eval (.Lambda params body scope pos) X.env) Q E s := by
  obtain ⟨ps, hP, ht, ha⟩ := hT _ hm
  refine PySem.W.kla_eval hdef ?_
  have bP : s.heap.BuiltinsAt X.mg P := TB.bm.keeps I.bk
  have hP' : s.heap.get? P = some { cls := .none, data := .fields ps } := I.hok P _ hP
  cases hc : codeAmong pos ps.toList with
  | none =>
    refine PySem.W.kla_makeFunction (mg := X.mg) (c := c) (P := P) (ps := ps) (closure_ok hfree) I.ok.glob (I.mod.glob.keeps I.bk) hcode (TB.code.keeps I.bk) hP' ht hc TB.gP bP fun c' ctv h' tk hx hge hlt hrec htb => ?_
    obtain ⟨c2, oc, vs, t, e2, hoc, hd, hv⟩ := hrec
    cases e2
    have nC : H c' = none := I.hok.fresh hge
    have I1 := LamX.inv_table (t' := tk) (more := #[rawInt pos.line, rawInt pos.col, .ref c']) (h' := h') I hP (fun b o hb e => hx b o hb e) htb hge ⟨oc, vs, t, hoc, hd, hv⟩
    have hE : LamX.ExtN H (upd (upd H P (.tbl (ps ++ #[rawInt pos.line, rawInt pos.col, .ref c']))) c' (LamX.CodeO c' (X.env.qual ++ "<lambda>"))) := fun b o e n => by
      rw [upd_ne (ne_of_none e nC), upd_ne (fun z => n ps (Option.some.inj (e.symm.trans (by rw [z]; exact hP))))]
      exact e
    have eL : (ps ++ #[rawInt pos.line, rawInt pos.col, .ref c']).toList = ps.toList ++ [rawInt pos.line, rawInt pos.col, .ref c'] := by simp
    have T1 : LamX.Tabs T (upd (upd H P (.tbl (ps ++ #[rawInt pos.line, rawInt pos.col, .ref c']))) c' (LamX.CodeO c' (X.env.qual ++ "<lambda>"))) := fun p hp => by
      by_cases hb : p.1 = P
      · rw [hu p hp hb, hb]
        refine ⟨_, by rw [upd_ne (ne_of_none hP nC), upd_same], by rw [eL]; exact PySem.TriplesOk_snoc _ _ _ _ ht, fun p' cv hcv => ?_⟩
        rw [eL] at hcv
        rcases LamX.among_app _ ht hcv with z | z
        · obtain ⟨c0, e1, e2⟩ := ha p' cv z
          exact ⟨c0, e1, hE _ _ e2 LamX.codeO_ne⟩
        · exact ⟨c', z, upd_same⟩
      · obtain ⟨ps', a1, a2, a3⟩ := hT p hp
        refine ⟨ps', by rw [upd_ne (ne_of_none a1 nC), upd_ne hb]; exact a1, a2, fun p' cv hcv => ?_⟩
        obtain ⟨c0, e1, e2⟩ := a3 p' cv hcv
        exact ⟨c0, e1, hE _ _ e2 LamX.codeO_ne⟩
    have nF := I1.hok.fresh (Nat.le_refl _)
    have I2 := inv_lam (L := ⟨X.env.qual ++ "<lambda>", params, body, scope, cloFrom X.env.cells scope.names [], c'⟩) (t' := tk) (pm := (X.mg "__name__").getD .none) (ctv := ctv) I1 rfl
    refine h h'.objs.size c' _ _ I2 (fun b o e n => ?_) (T1.ext fun b o e => ?_) (I.hok.fresh (Nat.le_trans hge (Nat.le_of_lt hlt))) upd_same ?_
    · have e1 := hE b o e n
      exact (upd_ne (ne_of_none e1 nF)).trans e1
    · exact (upd_ne (ne_of_none e nF)).trans e
    · exact (upd_ne (Nat.ne_of_lt hlt)).trans upd_same
  | some cv =>
    obtain ⟨c', e, hco⟩ := ha pos cv hc
    subst e
    refine PySem.W.kla_makeFunctionHit (mg := X.mg) (c := c) (P := P) (ps := ps) (closure_ok hfree) I.ok.glob (I.mod.glob.keeps I.bk) hcode (TB.code.keeps I.bk) hP' ht hc bP fun ctv h' tk hx hsz => ?_
    have I1 : Inv X pins σ H { s with heap := h', toks := tk } := I.kept hx
    have nF : H h'.objs.size = none := I1.hok.fresh (Nat.le_refl _)
    have I2 := inv_lam (L := ⟨X.env.qual ++ "<lambda>", params, body, scope, cloFrom X.env.cells scope.names [], c'⟩) (t' := tk) (pm := (X.mg "__name__").getD .none) (ctv := ctv) I1 rfl
    refine h h'.objs.size c' _ _ I2 (fun b o e n => ?_) (hT.ext fun b o e => ?_) nF upd_same ?_
    · exact (upd_ne (ne_of_none e nF)).trans e
    · exact (upd_ne (ne_of_none e nF)).trans e
    · exact (upd_ne (ne_of_none hco nF)).trans hco
/-- the reading of a lambda that is kept -/
def tLamK (T : List (Addr × Str)) (mk : Addr → LF) : TE := fun σ H Q => LamX.Tabs T H ∧ ∀ (f c' : Addr) (H1 : Hp), LamX.ExtN H H1 → LamX.Tabs T H1 → H f = none → H1 f = some (LamO f (mk c')) → H1 c' = some (LamX.CodeO c' (mk c').qual) → Q (.ref f) H1
theorem pe_lamK {T : List (Addr × Str)} {c P : Addr} {params : Arguments} {body : Expr} {scope : Scope} {pos : Pos} (TB : LamX.TabB X.base X.mg c P) (hcode : X.env.code = .ref c)
    (hm : (P, X.env.qual ++ "<lambda>") ∈ T) (hu : ∀ p ∈ T, p.1 = P → p.2 = X.env.qual ++ "<lambda>") (hdef : defaultsOf params X.env = ([], []))
    (hfree : ∀ y ∈ scope.names, y.2 = .free → X.env.scope.names.lookup y.1 = some .cell ∨ X.env.scope.names.lookup y.1 = some .free) :
    PE X (.Lambda params body scope pos) (tLamK T fun c' => ⟨X.env.qual ++ "<lambda>", params, body, scope, cloFrom X.env.cells scope.names [], c'⟩) := by
  refine ⟨fun pins s σ H Q I h => ?_⟩
  obtain ⟨hT, h⟩ := h
  have hfr : ∀ y ∈ scope.names, y.2 = .free → ∃ c, X.env.cells.lookup y.1 = some c := fun y hy e => (hfree y hy e).elim (fun z => I.ok.has _ (.inl z)) fun z => I.ok.has _ (.inr z)
  exact lam_makeK I TB hcode hm hu hT hdef hfr fun f c' H1 s' I1 eN T1 f0 f1 c1 => ⟨.ref f, H1, I1, rfl, h f c' H1 eN T1 f0 f1 c1⟩
end
end K75
-- part W2
set_option Elab.async false
set_option linter.all false
set_option maxRecDepth 100000
set_option maxHeartbeats 4000000
namespace K75
open PySem PySem.Spec PyProof.Rows L2
/-! watchers -/
def ova : Option Int → V
  | none => .non
  | some n => .int n
abbrev Am := List (Tx0 × Option Int)
/-- a watcher: the lambda L at f, it fills the dict at m -/
structure Wt where
  f : Addr
  L : LF
  m : Addr
structure WtH (H : Hp) (W : Wt) (am : Am) : Prop where
  hf : H W.f = some (LamO W.f W.L)
  hc : H W.L.c = some (LamX.CodeO W.L.c W.L.qual)
  hm : H W.m = some (.dK (dV ova am))
section
variable (P : Program) (w : World) (K : PySem.W.Frag) (mg : Str → Option Value) (base : Heap)
def WtOk (W : Wt) : Prop := ∀ (A : Around) (outer : List Env) (s : Shared) (H : Hp) (us : List Value) (n : Tx0) (am : Am) (ov : Option Int) (Q : VK), Room 3 A → Env0 P w K mg base A outer s H → WtH H W am → am.length ≤ 1000 → Vals [tv n, ova ov] us →
  (∀ H2, Kp [W.m] H H2 → H2 W.m = some (.dK (dV ova (putA am n ov))) → Q .non H2) → codeAny (model P w) A (.call (.ref W.f) ⟨us, []⟩) (CR CX0 outer P w H s Q E0) s
end
/-- the same record as a nested def's, without a body -/
abbrev LF.nf (L : LF) : NdefX.NF := ⟨"<lambda>", L.qual, L.params, [], L.scope, L.cl, L.c⟩
/-- a lambda that captures, called: its body by the rules -/
theorem run_lamF {CX : CXT} {P : Program} {w : World} {K : PySem.W.Frag} {mg : Str → Option Value} {base : Heap} {k : Nat} {f : Addr} {L : LF} {pm ctv : Value} {t : TE}
    {N ps fr : List Str} {ws : List (Option V)} (S : NdefX.NScope N ps fr L.scope) {A : Around} {outer : List Env} {s : Shared} {H : Hp} {args : Args} {us : List Value} {vs : List V} {Q : VK} {E : XK}
    (hf : s.heap.get? f = some (L.obj pm ctv)) (hc : s.heap.CodeRec (.ref L.c) L.qual) (hr : Room (k + 1) A) (e0 : Env0 P w K mg base A outer s H)
    (hb : bindArgs (PySem.W.kla_fn "<lambda>" L.qual L.params L.body L.scope L.cl pm (.ref L.c) ctv) args = pure (ps.zip us)) (C : NdefX.CellsAt L.cl fr ws s.heap H) (r : Vals vs us) (hl : vs.length = ps.length)
    (hbody : Room k (A.deeper (NdefX.envF L.nf f s.heap.objs.size)) → PE (NdefX.ncx CX P w K mg base N L.nf f A outer s H E) L.body t ∧ t (NdefX.startF N vs ws) H Q) :
    codeAny (model P w) A (.call (.ref f) args) (CR CX outer P w H s Q E) s := by
  have lim : s.heap.NoLimit := e0.mod.nolimit.keeps fun b o e => (e0.bs b o e).1
  refine PySem.W.kla_callFunE hr.depth hf rfl S.co S.gen rfl hc ?_
  rw [hb]
  refine wpAny_pure (wpAny_newFunctionEnv S.nocell (fun ⟨n, _⟩ hy => S.par n (List.of_mem_zip hy).1) (fun h₁ hns hsb => ⟨lim.fresh _ hsb, PySem.W.kla_codeExpr ?_⟩) S.kind)
  have kp : ∀ b o, s.heap.get? b = some o → h₁.get? b = some o := fun b o e => hsb.extBut b o (Nat.ne_of_lt (Heap.lt_size e)) (Heap.get?_push_of_some _ e)
  obtain ⟨ht, hq⟩ := hbody (hr.deeper _)
  have I : Inv (NdefX.ncx CX P w K mg base N L.nf f A outer s H E) [] (NdefX.startF N vs ws) H { s with heap := h₁, toks := s.toks + (ps.zip us).length } := NdefX.inv_startN S hr.hd e0 hl r C hns kp
  refine wpAny_mono (ht.run [] _ (NdefX.startF N vs ws) H _ I hq) (fun u s' hs => ?_) fun e s' hs => hs
  obtain ⟨v, H', J, rv, q⟩ := hs
  exact ⟨v, H', J.os, J.bare, J.base, J.hok, rv, q⟩
/-- lambda name, amount: amounts.update({name: amount}) -/
theorem wt_ok {P : Program} {w : World} {K : PySem.W.Frag} {mg : Str → Option Value} {base : Heap} {W : Wt} {cc : Addr} {p1 p2 p3 p4 p5 p6 : Pos}
    (S : NdefX.NScope ["name", "amount", "amounts"] ["name", "amount"] ["amounts"] W.L.scope) (hcl : W.L.cl = [(("amounts" : Str), cc)]) (hcell : base.IsCell cc (some (.ref W.m)))
    (hb : ∀ (pm ctv u v : Value), bindArgs (PySem.W.kla_fn "<lambda>" W.L.qual W.L.params W.L.body W.L.scope W.L.cl pm (.ref W.L.c) ctv) ⟨[u, v], []⟩ = pure [(("name" : Str), u), (("amount" : Str), v)])
    (hbd : W.L.body = .Call (.Attribute (.Name "amounts" p1) "update" p2) [.Dict [some (.Name "name" p3)] [.Name "amount" p4] p5] [] p6) (hp : (p2.endLine == p6.line) = true) : WtOk P w K mg base W := by
  intro A outer s H us n am ov Q hr e0 ⟨hf, hc, hm⟩ hl r q
  have h3 : sizeLine = 16777216 := sizeLine_eq
  obtain ⟨pm, ctv, ho⟩ := lamO_at e0.hok hf
  obtain ⟨oc, ecc, hdc⟩ := hcell
  have hcc := e0.bs cc oc ecc
  obtain ⟨u, v, rfl, r1, r2⟩ := vals2 r
  have C : NdefX.CellsAt W.L.cl ["amounts"] [some (.ref W.m)] s.heap H := by
    rw [hcl]
    refine ⟨rfl, fun y c e => ?_, fun x y c e1 e2 => ?_, fun i y e => ?_⟩
    · have hy : c = cc := by
        simp only [List.lookup] at e
        split at e
        · exact (Option.some.inj e).symm
        · cases e
      subst hy
      exact ⟨hcc.2, some (.ref W.m), oc, hcc.1, hdc⟩
    · simp only [List.lookup] at e1 e2
      split at e1
      · rename_i z1
        split at e2
        · rename_i z2
          rw [eq_of_beq z1, eq_of_beq z2]
        · cases e2
      · cases e1
    · have hi : i = 0 ∧ y = "amounts" := by
        cases i with
        | zero => exact ⟨rfl, (Option.some.inj e).symm⟩
        | succ j => simp at e
      obtain ⟨rfl, rfl⟩ := hi
      refine ⟨cc, by simp [List.lookup], fun v hv => ?_⟩
      cases hv
      exact ⟨.ref W.m, rfl, oc, hcc.1, hdc⟩
  have hv2 : W.L.scope.names.lookup ("amounts" : Str) = some .free := S.frk _ (by simp)
  have hv0 : W.L.scope.names.lookup ("name" : Str) = some .local := S.par _ (by simp)
  have hv1 : W.L.scope.names.lookup ("amount" : Str) = some .local := S.par _ (by simp)
  refine run_lamF (k := 2) (N := ["name", "amount", "amounts"]) (ps := ["name", "amount"]) (fr := ["amounts"]) (ws := [some (.ref W.m)]) (vs := [tv n, ova ov]) (t := tBM K "dict" rDUpd (tVar 2) (tCons (tDisp [(tVar 0, tVar 1)]) tNil)) S ho (NdefX.codeO_at e0.hok hc) hr e0 (hb _ _ _ _) C r rfl fun hr2 => ⟨?_, ?_⟩
  · rw [hbd]
    exact pe_bm PySem.F.plainAttrs_dict PySem.F.slot_dict_update PySem.F.type_dict_update mt_dupdate (pe_var (i := 2) rfl (.inr (.inr hv2))) (pa_cons (pe_disp (pps_cons (pe_var (i := 0) rfl (.inl hv0)) (pe_var (i := 1) rfl (.inl hv1)) pps_nil) rfl rfl (fun z => by cases z) (by show 1 ≤ 15; decide)) pa_nil) (hline := hp)
  refine ⟨_, rfl, ?_, fun p hp0 => ?_⟩
  · exact .inr (.inr (.inl ⟨rfl, .inl ⟨_, hm⟩⟩))
  · have npm : W.m ≠ p := ne_of_none hm hp0
    refine ⟨_, rfl, _, rfl, upd_same, [(kx n, ova ov)], rfl, by show 1 ≤ 15; decide, ?_⟩
    rw [upd_upd]
    refine ⟨W.m, p, dV ova am, dV ova [(n, ov)], rfl, rfl, npm, by rw [upd_ne npm]; exact hm, ?_, ?_, ?_⟩
    · rw [upd_same]
      rfl
    · rw [dV_length, dV_length]
      show am.length + 1 ≤ _
      omega
    · have e : mergeK (dV ova am) (dV ova [(n, ov)]) = dV ova (putA am n ov) := putK_dV ova am n ov
      rw [e]
      refine q _ ?_ upd_same
      exact ((kp_refl H).up (.inl hp0)).up (.inr (by simp))
end K75
-- part W3
set_option Elab.async false
set_option linter.all false
set_option maxRecDepth 100000
set_option maxHeartbeats 4000000
namespace K75
open PySem PySem.Spec PyProof.Rows L2
def tCallW (P : Program) (w : World) (K : PySem.W.Frag) (mg : Str → Option Value) (base : Heap) (i : Nat) (t : TA) : TE := fun σ H Q => ∃ W : Wt, σ[i]? = some (some (.ref W.f)) ∧ H W.f = some (LamO W.f W.L) ∧ WtOk P w K mg base W ∧
  t σ H fun vs H1 => ∃ (n : Tx0) (ov : Option Int) (am : Am), vs = [tv n, ova ov] ∧ WtH H1 W am ∧ am.length ≤ 1000 ∧ ∀ H2, Kp [W.m] H1 H2 → H2 W.m = some (.dK (dV ova (putA am n ov))) → Q .non H2
theorem lam_fnAt {X : Cx} {pins : List (Addr × Obj)} {σ : L2.St} {H : Hp} {s : Shared} {f : Addr} {L : LF} (I : Inv X pins σ H s) (e : H f = some (LamO f L)) : PySem.W.FnAt f s.heap := by
  obtain ⟨pm, ctv, ho⟩ := lamO_at I.hok e
  exact ⟨_, _, _, _, ho⟩
section
variable {X : Cx} {i k : Nat} {x : Str} {t : TA} {e : Expr} {es : List Expr} {p pos : Pos}
theorem pe_callW (hr : Room k X.A) (hk : 3 ≤ k) (hN : X.N[i]? = some x) (hv : Vis X.env.scope x) (ha : PA X (e :: es) t)
    (hd : (x == ("__debug__" : Str)) = false := by decide) (hcd : (x == ("__classdict__" : Str)) = false := by decide)
    (he : starEach (e :: es) X.env = (false, eval e X.env) :: starEach es X.env := by rfl) (hpl : (backTo pos (starEach es X.env)).any (·.1) = false := by rfl) :
    PE X (.Call (.Name x p) (e :: es) [] pos) (tCallW X.prog X.w X.K X.mg X.base i t) := by
  refine ⟨fun pins s σ H Q I h => ?_⟩
  obtain ⟨W, hs, hf, hW, ht⟩ := h
  refine wpAny_Call_Name_kw (thn ((pe_var (pos := p) hN hv hd hcd).run pins s σ H (fun v H1 => v = .ref W.f ∧ H1 = H) I ⟨.ref W.f, hs, rfl, rfl⟩) fun u s1 ⟨v, H1, I1, r1, q1⟩ => ?_)
  obtain ⟨ev, eH⟩ := q1
  subst ev
  rw [eH] at I1
  obtain rfl : u = Value.ref W.f := r1
  refine PySem.W.callWith_F (first := []) (lam_fnAt I1 hf) (thn (ha.run pos pins s1 σ H _ I1 ht) fun us s2 ⟨vs, H2, I2, r, n, ov, am, ev, h1, hl, q⟩ => ⟨lam_fnAt I2 h1.hf, ?_⟩) he hpl
  show wpAny _ _ (call (.ref W.f) us) _ _ _
  subst ev
  refine wpAny_call (codeAny_mono (hW X.A X.stack s2 H2 us n am ov Q (hr.mono hk) I2.env0 h1 hl r q) fun r s' hq => ?_)
  cases r with
  | error er => exact pass0 pins σ H2 s2 er s' I2 hq
  | ok fl =>
    cases fl with
    | ret u => exact I2.after hq
    | next => exact False.elim hq
    | brk => exact False.elim hq
    | cont => exact False.elim hq
end
/-! ### a heap without some objects -/
def hid (ms : List Addr) (H : Hp) : Hp := fun b => if b ∈ ms then none else H b
theorem hid_in {ms : List Addr} {H : Hp} {b : Addr} (h : b ∈ ms) : hid ms H b = none := if_pos h
theorem hid_out {ms : List Addr} {H : Hp} {b : Addr} (h : b ∉ ms) : hid ms H b = H b := if_neg h
theorem hid_some {ms : List Addr} {H : Hp} {b : Addr} {o : HO} (h : hid ms H b = some o) : b ∉ ms ∧ H b = some o := by
  unfold hid at h
  split at h
  · cases h
  · rename_i z
    exact ⟨z, h⟩
theorem hid_nil (H : Hp) : hid [] H = H := funext fun b => hid_out (by simp)
theorem hid_sub (ms : List Addr) (H : Hp) : Kp [] (hid ms H) H := fun b o h _ => (hid_some h).2
/-- what changes but ms changes no more than D where ms is not seen -/
theorem hid_kp {ms D E : List Addr} {H H' : Hp} (k : Kp E H H') (h : ∀ x ∈ E, x ∈ D ∨ x ∈ ms ∨ H x = none) : Kp D (hid ms H) (hid ms H') := fun b o e n => by
  obtain ⟨z, e1⟩ := hid_some e
  rw [hid_out z]
  refine k b o e1 fun hb => ?_
  rcases h b hb with q | q | q
  · exact n q
  · exact z q
  · rw [q] at e1
    cases e1
theorem hid_upd {ms : List Addr} {H : Hp} {a : Addr} {o : HO} (h : a ∉ ms) : hid ms (upd H a o) = upd (hid ms H) a o := funext fun b => by
  by_cases hb : b = a
  · subst hb
    rw [hid_out h, upd_same, upd_same]
  · rw [upd_ne hb]
    unfold hid
    split
    · rfl
    · exact upd_ne hb
theorem hid_updm {ms : List Addr} {H : Hp} {a : Addr} {o : HO} (h : a ∈ ms) : hid ms (upd H a o) = hid ms H := funext fun b => by
  unfold hid
  split
  · rfl
  · rename_i z
    exact upd_ne (fun e => z (by rw [e]; exact h))
end K75
-- part W4
set_option Elab.async false
set_option linter.all false
set_option maxRecDepth 100000
set_option maxHeartbeats 4000000
namespace K75
open PySem PySem.Spec PyProof.Rows L2
/-! rows of a shelf, and what becomes of them -/
def offR (m : Tb) (n : Tx0) : Tb := m.filter fun p => !decide (p.1 = n)
def putR (m : Tb) (n : Tx0) : Option Tx0 → Tb
  | none => offR m n
  | some t => offR m n ++ [(n, t)]
theorem off_mem {m : Tb} {n : Tx0} {p : Tx0 × Tx0} : p ∈ offR m n ↔ p ∈ m ∧ p.1 ≠ n := by
  unfold offR
  rw [List.mem_filter]
  simp
theorem off_perm {m l : Tb} (h : m.Perm l) (n : Tx0) : (offR m n).Perm (offR l n) := h.filter _
theorem put_perm {m l : Tb} (h : m.Perm l) (n : Tx0) (o : Option Tx0) : (putR m n o).Perm (putR l n o) := by
  cases o with
  | none => exact off_perm h n
  | some t => exact (off_perm h n).append_right _
theorem off_keys {m : Tb} {n : Tx0} : n ∉ (offR m n).map (·.1) := fun h => by
  obtain ⟨p, hp, e⟩ := List.mem_map.mp h
  exact (off_mem.mp hp).2 e
theorem off_off {m : Tb} {n : Tx0} : offR (offR m n) n = offR m n := List.filter_eq_self.mpr fun p hp => by
  have := (off_mem.mp hp).2
  simp [this]
theorem put_put (m : Tb) (n : Tx0) (o o' : Option Tx0) : putR (putR m n o) n o' = putR m n o' := by
  have e : offR (putR m n o) n = offR m n := by
    cases o with
    | none => exact off_off
    | some t =>
      show offR (offR m n ++ [(n, t)]) n = _
      have h1 : offR (offR m n ++ [(n, t)]) n = offR (offR m n) n ++ offR [(n, t)] n := List.filter_append ..
      rw [h1, off_off]
      have : offR [(n, t)] n = [] := by
        unfold offR
        simp
      rw [this, List.append_nil]
  cases o' with
  | none => exact e
  | some t =>
    show offR (putR m n o) n ++ [(n, t)] = offR m n ++ [(n, t)]
    rw [e]
theorem nd_off {m : Tb} {n : Tx0} (nd : (m.map (·.1)).Nodup) : ((offR m n).map (·.1)).Nodup := nd.sublist ((List.filter_sublist).map _)
theorem nd_put {m : Tb} {n : Tx0} {o : Option Tx0} (nd : (m.map (·.1)).Nodup) : ((putR m n o).map (·.1)).Nodup := by
  cases o with
  | none => exact nd_off nd
  | some t =>
    show ((offR m n ++ [(n, t)]).map (·.1)).Nodup
    rw [List.map_append]
    refine List.nodup_append.mpr ⟨nd_off nd, by simp, fun a ha b hb => ?_⟩
    rw [List.map_singleton, List.mem_singleton] at hb
    rw [hb]
    rintro rfl
    exact off_keys ha
theorem get_put {m : Tb} {n : Tx0} {o : Option Tx0} (nd : (m.map (·.1)).Nodup) : getA (putR m n o) n = o := by
  cases o with
  | none => exact getA_none.mpr off_keys
  | some t => exact getA_mem (nd_put (o := some t) nd) (List.mem_append_right _ (List.mem_singleton_self _))
theorem off_none {m : Tb} {n : Tx0} (h : n ∉ m.map (·.1)) : offR m n = m := List.filter_eq_self.mpr fun p hp => by
  have : p.1 ≠ n := fun e => h (by rw [← e]; exact List.mem_map_of_mem hp)
  simp [this]
theorem put_get {m : Tb} {n : Tx0} (nd : (m.map (·.1)).Nodup) : (putR m n (getA m n)).Perm m := by
  cases e : getA m n with
  | none =>
    show (offR m n).Perm m
    rw [off_none (getA_none.mp e)]
  | some t =>
    show (offR m n ++ [(n, t)]).Perm m
    have hm := getA_some e
    clear e
    induction m with
    | nil => cases hm
    | cons p m ih =>
      rw [List.map_cons, List.nodup_cons] at nd
      by_cases h : p.1 = n
      · have e1 : offR (p :: m) n = offR m n := List.filter_cons_of_neg (by simp [h])
        have e2 : p = (n, t) := by
          rcases List.mem_cons.mp hm with z | z
          · exact z.symm
          · exact absurd (List.mem_map_of_mem (f := (·.1)) z) (by rw [← h]; exact nd.1)
        rw [e1, off_none (by rw [← h]; exact nd.1), e2]
        exact List.perm_append_comm
      · have e1 : offR (p :: m) n = p :: offR m n := List.filter_cons_of_pos (by simp [h])
        rw [e1]
        refine (ih nd.2 ?_).cons p
        rcases List.mem_cons.mp hm with z | z
        · exact absurd (by rw [← z]) h
        · exact z
theorem len_off (m : Tb) (n : Tx0) : (offR m n).length ≤ m.length := List.length_filter_le _ _
theorem len_put (m : Tb) (n : Tx0) (o : Option Tx0) : (putR m n o).length ≤ m.length + 1 := by
  have := len_off m n
  cases o with
  | none => exact Nat.le_succ_of_le this
  | some t =>
    show (offR m n ++ [(n, t)]).length ≤ _
    rw [List.length_append, List.length_singleton]
    omega
theorem len_put_old {m : Tb} {n : Tx0} (nd : (m.map (·.1)).Nodup) (h : n ∈ m.map (·.1)) (t : Tx0) : (putR m n (some t)).length = m.length := by
  obtain ⟨u, hu⟩ : ∃ u, getA m n = some u := by
    cases e : getA m n with
    | none => exact absurd h (getA_none.mp e)
    | some u => exact ⟨u, rfl⟩
  have h1 := (put_get nd (n := n)).length_eq
  rw [hu] at h1
  show (offR m n ++ [(n, t)]).length = _
  have h2 : (offR m n ++ [(n, u)]).length = m.length := h1
  rw [List.length_append, List.length_singleton] at h2 ⊢
  exact h2
theorem put_new {m : Tb} {n : Tx0} (h : n ∉ m.map (·.1)) (t : Tx0) : putR m n (some t) = m ++ [(n, t)] := by
  show offR m n ++ _ = _
  rw [off_none h]
/-- dict's own way to write, up to the order -/
theorem putA_perm {β : Type} {f : Tx0 → β} {m : Tb} {am : List (Tx0 × β)} (h : am.Perm (m.map fun p => (p.1, f p.2))) (nd : (m.map (·.1)).Nodup) (n t : Tx0) : (putA am n (f t)).Perm ((putR m n (some t)).map fun p => (p.1, f p.2)) := by
  have hk : ∀ x, x ∈ am.map (·.1) ↔ x ∈ m.map (·.1) := fun x => by
    have := (h.map (·.1)).mem_iff (a := x)
    rw [List.map_map] at this
    exact this
  have nda : (am.map (·.1)).Nodup := by
    have := (h.map (·.1)).nodup_iff
    rw [List.map_map] at this
    exact this.mpr nd
  by_cases hn : n ∈ am.map (·.1)
  · unfold putA
    rw [if_pos hn]
    have e1 : am.map (fun p => if p.1 = n then (p.1, f t) else p) = am.map (fun p => if p.1 = n then (n, f t) else p) := List.map_congr_left fun p _ => by
      by_cases e : p.1 = n
      · rw [if_pos e, if_pos e, e]
      · rw [if_neg e, if_neg e]
    rw [e1]
    refine (h.map _).trans ?_
    have hm := (hk n).mp hn
    obtain ⟨u, hu⟩ : ∃ u, getA m n = some u := by
      cases e : getA m n with
      | none => exact absurd hm (getA_none.mp e)
      | some u => exact ⟨u, rfl⟩
    have h2 := put_get nd (n := n)
    rw [hu] at h2
    have h3 : (offR m n ++ [(n, u)]).Perm m := h2
    refine ((h3.symm.map _).map _).trans ?_
    rw [List.map_append, List.map_append]
    show List.Perm _ ((offR m n ++ [(n, t)]).map fun p => (p.1, f p.2))
    rw [List.map_append]
    refine List.Perm.append (List.Perm.of_eq ?_) (List.Perm.of_eq ?_)
    · rw [List.map_map]
      refine List.map_congr_left fun p hp => ?_
      exact if_neg (off_mem.mp hp).2
    · simp
  · rw [putA_new hn, put_new (fun z => hn ((hk n).mpr z)), List.map_append]
    exact h.append_right _
end K75
-- part W5
set_option Elab.async false
set_option linter.all false
set_option maxRecDepth 100000
set_option maxHeartbeats 4000000
namespace K75
open PySem PySem.Spec PyProof.Rows L2
/-! what a text weighs -/
def prM (bk : Bk) (pl : Pl) (t : Tx0) : Int := cost bk (cutM pl t)
open Classical in
noncomputable def chM (bk : Bk) (t : Tx0) : Int := if h : ∃ v, Cheap bk t v then h.choose else 0
noncomputable def bhM (bk : Bk) (pl : Pl) (t : Tx0) : Int := prM bk pl t - chM bk t
theorem ch_of {bk : Bk} (g : GoodBook bk) {t : Tx0} {v : Int} (h : Cheap bk t v) : chM bk t = v := by
  unfold chM
  rw [dif_pos ⟨v, h⟩]
  exact cheap_unique (fun p hp => (g.ln p hp).1) (fun _ => Iff.rfl) (Exists.choose_spec (⟨v, h⟩ : ∃ v, Cheap bk t v)) h
theorem cheap_perm {bk bl : Bk} (h : bk.Perm bl) (t : Tx0) (v : Int) : Cheap bk t v → Cheap bl t v := by
  rintro ⟨fs, a, b, c⟩
  refine ⟨fs, ⟨a.zero, fun s h1 h2 => ?_⟩, b, c⟩
  have ec : ∀ y, Cand bk t fs s y ↔ Cand bl t fs s y := fun y => ⟨fun ⟨p, hp, z⟩ => ⟨p, h.mem_iff.mp hp, z⟩, fun ⟨p, hp, z⟩ => ⟨p, h.mem_iff.mpr hp, z⟩⟩
  obtain ⟨m, e1, e2, e3⟩ := a.step s h1 h2
  exact ⟨m, e1, (ec m).mp e2, fun y hy => e3 y ((ec y).mpr hy)⟩
theorem ch_perm {bk bl : Bk} (g : GoodBook bk) (gl : GoodBook bl) (h : bk.Perm bl) (t : Tx0) : chM bk t = chM bl t := by
  by_cases e : ∃ v, Cheap bk t v
  · obtain ⟨v, hv⟩ := e
    rw [ch_of g hv, ch_of gl (cheap_perm h t v hv)]
  · have e2 : ¬ ∃ v, Cheap bl t v := fun ⟨v, hv⟩ => e ⟨v, cheap_perm h.symm t v hv⟩
    unfold chM
    rw [dif_neg e, dif_neg e2]
theorem pr_perm {bk bl : Bk} (gl : GoodBook bl) (h : bk.Perm bl) (pl : Pl) (t : Tx0) : prM bk pl t = prM bl pl t := by
  unfold prM cost
  refine congrArg List.sum (List.map_congr_left fun p _ => ?_)
  rw [getA_perm h gl.nd]
theorem bh_perm {bk bl : Bk} (g : GoodBook bk) (gl : GoodBook bl) (h : bk.Perm bl) (pl : Pl) (t : Tx0) : bhM bk pl t = bhM bl pl t := by
  unfold bhM
  rw [pr_perm gl h, ch_perm g gl h]
/-! sums -/
def ow (f : Tx0 → Int) : Option Tx0 → Int
  | none => 0
  | some t => f t
def sumW (f : Tx0 → Int) (m : Tb) : Int := (m.map fun p => f p.2).sum
theorem sum_permI {l m : List Int} (h : l.Perm m) : l.sum = m.sum := by
  induction h with
  | nil => rfl
  | cons x _ ih => rw [List.sum_cons, List.sum_cons, ih]
  | swap x y l => simp only [List.sum_cons]; omega
  | trans _ _ a b => exact a.trans b
theorem sumW_perm (f : Tx0 → Int) {m l : Tb} (h : m.Perm l) : sumW f m = sumW f l := sum_permI (h.map _)
theorem sumW_off (f : Tx0 → Int) {m : Tb} (nd : (m.map (·.1)).Nodup) (n : Tx0) : sumW f (offR m n) = sumW f m - ow f (getA m n) := by
  have h := sumW_perm f (put_get nd (n := n))
  cases e : getA m n with
  | none =>
    rw [e] at h
    have h2 : sumW f (offR m n) = sumW f m := h
    show _ = _ - (0 : Int)
    omega
  | some t =>
    rw [e] at h
    have h2 : sumW f (offR m n ++ [(n, t)]) = sumW f m := h
    unfold sumW at h2 ⊢
    rw [List.map_append, List.sum_append] at h2
    have e3 : ([(n, t)].map fun p : Tx0 × Tx0 => f p.2).sum = f t := by simp
    rw [e3] at h2
    show _ = _ - f t
    omega
theorem sumW_put (f : Tx0 → Int) {m : Tb} (nd : (m.map (·.1)).Nodup) (n : Tx0) (o : Option Tx0) : sumW f (putR m n o) = sumW f m - ow f (getA m n) + ow f o := by
  have h := sumW_off f nd n
  cases o with
  | none =>
    show sumW f (offR m n) = _ + (0 : Int)
    omega
  | some t =>
    show sumW f (offR m n ++ [(n, t)]) = _ + f t
    have e : sumW f (offR m n ++ [(n, t)]) = sumW f (offR m n) + f t := by
      unfold sumW
      rw [List.map_append, List.sum_append]
      simp
    omega
/-! shelves -/
def Nm (n : Tx0) : Prop := Lt n ∧ 1 ≤ n.length ∧ n.length ≤ 8
structure RowsOk (bk : Bk) (m : Tb) : Prop where
  nd : (m.map (·.1)).Nodup
  le : m.length ≤ 50
  nm : ∀ p ∈ m, Nm p.1
  tx : ∀ p ∈ m, Ov bk p.2 ∧ p.2.length ≤ 8000
theorem RowsOk.perm {bk : Bk} {m l : Tb} (h : RowsOk bk m) (p : m.Perm l) : RowsOk bk l :=
  ⟨(p.map _).nodup_iff.mp h.nd, by rw [← p.length_eq]; exact h.le, fun q hq => h.nm q (p.mem_iff.mpr hq), fun q hq => h.tx q (p.mem_iff.mpr hq)⟩
structure Chg where
  n : Tx0
  b : Option Tx0
  a : Option Tx0
def otv : Option Tx0 → V
  | none => .non
  | some t => tv t
def EntH (G : Hp) (e : Addr) (c : Chg) : Prop := ∃ i, G e = some (.tup [.ref i]) ∧ G i = some (.tup [tv c.n, otv c.b, otv c.a])
theorem EntH.kp {CF : Addr} {D : List Addr} {G G' : Hp} {e : Addr} {c : Chg} (h : EntH G e c) (k : Kp D G G') (v : VolAt CF G D) : EntH G' e c := by
  obtain ⟨i, a, b⟩ := h
  exact ⟨i, k.vol v a nv_tup, k.vol v b nv_tup⟩
abbrev EntsH (G : Hp) : List Addr → List Chg → Prop := Paired (EntH G)
theorem EntsH.kp {CF : Addr} {D : List Addr} {G G' : Hp} {es : List Addr} {cs : List Chg} (h : EntsH G es cs) (k : Kp D G G') (v : VolAt CF G D) : EntsH G' es cs := L2.Paired.mapP h fun _ _ e => e.kp k v
def ShO (CF dx c tx sm ld lu lw : Addr) : HO := .ins CF dx [("own_cutter", .ref c), ("own_texts", .ref tx), ("own_sums", .ref sm), ("own_done", .ref ld), ("own_undone", .ref lu), ("own_block", .non), ("own_entry", .non), ("own_watchers", .ref lw)]
structure ShAt (CB CC CF : Addr) (G : Hp) (s : Addr) (bk : Bk) (pl : Pl) (rows : Tb) (dn ud : List Chg) (wf : List Addr) (dx c tx sm ld lu lw : Addr) (rw : Tb) (ds us : List Addr) : Prop where
  hs : G s = some (ShO CF dx c tx sm ld lu lw)
  hc : CutH CB CC G c bk pl
  ht : G tx = some (.dK (dV tv rw))
  pr : rw.Perm rows
  so : Srt (rw.map (·.1))
  ok : RowsOk bk rows
  hm : G sm = some (.tup [.int (sumW (prM bk pl) rows), .int (sumW (bhM bk pl) rows)])
  hd : G ld = some (.lst (ds.map .ref))
  hu : G lu = some (.lst (us.map .ref))
  hw : G lw = some (.lst (wf.map .ref))
  ed : EntsH G ds dn
  eu : EntsH G us ud
  n1 : ld ≠ lu
  n2 : ld ≠ lw
  n3 : lu ≠ lw
  dl : dn.length + ud.length ≤ 1000
  wl : wf.length ≤ 1
def ShelfH (CB CC CF : Addr) (G : Hp) (s : Addr) (bk : Bk) (pl : Pl) (rows : Tb) (dn ud : List Chg) (wf : List Addr) (fp : List Addr) : Prop :=
  ∃ dx c tx sm ld lu lw rw ds us, fp = [s, ld, lu, lw] ∧ ShAt CB CC CF G s bk pl rows dn ud wf dx c tx sm ld lu lw rw ds us
section
variable {CB CC CF : Addr} {G G' : Hp} {s dx c tx sm ld lu lw : Addr} {bk : Bk} {pl : Pl} {rows rw : Tb} {dn ud : List Chg} {wf ds us fp D : List Addr}
theorem ShAt.vol (h : ShAt CB CC CF G s bk pl rows dn ud wf dx c tx sm ld lu lw rw ds us) : VolAt CF G [s, ld, lu, lw] := fun x hx => by
  simp only [List.mem_cons, List.not_mem_nil, or_false] at hx
  rcases hx with e | e | e | e <;> rw [e]
  · exact ⟨_, h.hs, .inr ⟨_, _, rfl⟩⟩
  · exact ⟨_, h.hd, .inl ⟨_, rfl⟩⟩
  · exact ⟨_, h.hu, .inl ⟨_, rfl⟩⟩
  · exact ⟨_, h.hw, .inl ⟨_, rfl⟩⟩
theorem ShelfH.vol (h : ShelfH CB CC CF G s bk pl rows dn ud wf fp) : VolAt CF G fp := by
  obtain ⟨dx, c, tx, sm, ld, lu, lw, rw, ds, us, rfl, a⟩ := h
  exact a.vol
/-- nothing of the shelf's own is changed -/
theorem ShAt.kp (h : ShAt CB CC CF G s bk pl rows dn ud wf dx c tx sm ld lu lw rw ds us) (k : Kp D G G') (v : VolAt CF G D) (n : CB ≠ CF) (n2 : CC ≠ CF) (hd : ∀ x ∈ [s, ld, lu, lw], x ∉ D) : ShAt CB CC CF G' s bk pl rows dn ud wf dx c tx sm ld lu lw rw ds us :=
  ⟨k _ _ h.hs (hd _ (by simp)), h.hc.kp k v n n2, k.vol v h.ht nv_dK, h.pr, h.so, h.ok, k.vol v h.hm nv_tup, k _ _ h.hd (hd _ (by simp)), k _ _ h.hu (hd _ (by simp)), k _ _ h.hw (hd _ (by simp)), h.ed.kp k v, h.eu.kp k v, h.n1, h.n2, h.n3, h.dl, h.wl⟩
theorem ShelfH.kp (h : ShelfH CB CC CF G s bk pl rows dn ud wf fp) (k : Kp D G G') (v : VolAt CF G D) (n : CB ≠ CF) (n2 : CC ≠ CF) (hd : ∀ x ∈ fp, x ∉ D) : ShelfH CB CC CF G' s bk pl rows dn ud wf fp := by
  obtain ⟨dx, c, tx, sm, ld, lu, lw, rw, ds, us, rfl, a⟩ := h
  exact ⟨dx, c, tx, sm, ld, lu, lw, rw, ds, us, rfl, a.kp k v n n2 hd⟩
theorem ShAt.kp0 (h : ShAt CB CC CF G s bk pl rows dn ud wf dx c tx sm ld lu lw rw ds us) (k : Kp [] G G') : ShAt CB CC CF G' s bk pl rows dn ud wf dx c tx sm ld lu lw rw ds us :=
  ⟨k _ _ h.hs (by simp), h.hc.kp0 k, k _ _ h.ht (by simp), h.pr, h.so, h.ok, k _ _ h.hm (by simp), k _ _ h.hd (by simp), k _ _ h.hu (by simp), k _ _ h.hw (by simp), h.ed.kp k (CF := CF) vol_nil, h.eu.kp k (CF := CF) vol_nil, h.n1, h.n2, h.n3, h.dl, h.wl⟩
theorem ShelfH.kp0 (h : ShelfH CB CC CF G s bk pl rows dn ud wf fp) (k : Kp [] G G') : ShelfH CB CC CF G' s bk pl rows dn ud wf fp := by
  obtain ⟨dx, c, tx, sm, ld, lu, lw, rw, ds, us, rfl, a⟩ := h
  exact ⟨dx, c, tx, sm, ld, lu, lw, rw, ds, us, rfl, a.kp0 k⟩
theorem ShelfH.perm {rows' : Tb} (h : ShelfH CB CC CF G s bk pl rows dn ud wf fp) (p : rows.Perm rows') : ShelfH CB CC CF G s bk pl rows' dn ud wf fp := by
  obtain ⟨dx, c, tx, sm, ld, lu, lw, rw, ds, us, rfl, a⟩ := h
  refine ⟨dx, c, tx, sm, ld, lu, lw, rw, ds, us, rfl, a.hs, a.hc, a.ht, a.pr.trans p, a.so, a.ok.perm p, ?_, a.hd, a.hu, a.hw, a.ed, a.eu, a.n1, a.n2, a.n3, a.dl, a.wl⟩
  rw [← sumW_perm _ p, ← sumW_perm _ p]
  exact a.hm
theorem CutH.g (h : CutH CB CC G c bk pl) : GoodBook bk := by
  obtain ⟨dx, ab, o, tb, en, sz, rw, la, ns, a⟩ := h
  exact a.hb.g
theorem CutH.gp (h : CutH CB CC G c bk pl) : GoodPl bk pl := by
  obtain ⟨dx, ab, o, tb, en, sz, rw, la, ns, a⟩ := h
  exact a.gp
end
/-! the watcher that a shelf may have -/
def wfs : Option Wt → List Addr
  | none => []
  | some W => [W.f]
def wms : Option Wt → List Addr
  | none => []
  | some W => [W.m]
def WoH (H : Hp) (wo : Option Wt) (am : Am) : Prop := ∀ W, wo = some W → WtH H W am
def WoOk (P : Program) (w : World) (K : PySem.W.Frag) (mg : Str → Option Value) (base : Heap) (wo : Option Wt) : Prop := ∀ W, wo = some W → WtOk P w K mg base W
theorem WtH.kp {H H' : Hp} {W : Wt} {am : Am} {CF : Addr} {D : List Addr} (h : WtH H W am) (k : Kp D H H') (v : VolAt CF H D) : WtH H' W am :=
  ⟨k.vol v h.hf (by rintro (⟨_, e⟩ | ⟨_, _, e⟩) <;> exact nomatch e), k.vol v h.hc (by rintro (⟨_, e⟩ | ⟨_, _, e⟩) <;> exact nomatch e), k.vol v h.hm nv_dK⟩
theorem WoH.kp {H H' : Hp} {wo : Option Wt} {am : Am} {CF : Addr} {D : List Addr} (h : WoH H wo am) (k : Kp D H H') (v : VolAt CF H D) : WoH H' wo am := fun W e => (h W e).kp k v
theorem vol_hid {CF : Addr} {ms : List Addr} {H : Hp} {D : List Addr} (v : VolAt CF (hid ms H) D) : VolAt CF H D := fun x hx => by
  obtain ⟨o, e, h⟩ := v x hx
  exact ⟨o, (hid_some e).2, h⟩
end K75
-- part W6
set_option Elab.async false
set_option linter.all false
set_option maxRecDepth 100000
set_option maxHeartbeats 4000000
namespace K75
open PySem PySem.Spec PyProof.Rows L2
section
variable {P : Program} {w : World} {K : PySem.W.Frag} {mg : Str → Option Value} {base : Heap} {CB CC CF : Addr}
def sp_p_is_name : Sp := fun vs H Q _ => ∃ n : Tx0, vs = [tv n] ∧ Nm n ∧ ∀ H', Kp [] H H' → Q (.bl true) H'
theorem c_p_is_name (T : Ty K mg CB CC CF) : C8.Cal P w K mg base 3 "is_name" sp_p_is_name [] := by
  refine cal_of T.d_p_is_name sc_p_is_name (fun _ _ _ _ _ _ us hl => match us, hl with | [_], _ => rfl) (fun vs H Q E h => ?_) (fun cdv A outer f s H vs Q E hr h => ?_)
  · obtain ⟨n, rfl, _⟩ := h
    rfl
  · obtain ⟨n, rfl, ⟨h1, h2, h4⟩, q⟩ := h
    have h3 : sizeLine = 16777216 := sizeLine_eq
    refine ⟨_, (pss_one (ps_ret (pe_and (C8.pe_c (c_p_is_text T) hr (by decide) (by rfl) (pa_cons (pv 0) pa_nil)) (pe_one (pe_chain op_le op_le pe_int (pe_callB call_lenT (by rfl) T.n_len (by decide +kernel) (pa_cons (pv 0) pa_nil)) (C8.pe_gc (v := .int 8) (by rfl) (gi T.g_MAX_NAME))))))), ?_⟩
    refine ⟨_, rfl, n, rfl, h1, by omega, fun H1 hk => ⟨_, rfl, ?_⟩⟩
    refine ⟨_, rfl, _, rfl, by omega, _, _, rfl, rfl, _, rfl, iteT' (decide_eq_true (by omega)) ⟨_, _, rfl, rfl, ?_⟩⟩
    have e : decide ((n.length : Int) ≤ 8) = true := decide_eq_true (by omega)
    show Q (.bl (decide ((n.length : Int) ≤ 8))) H1
    rw [e]
    exact q H1 hk
def sp_p_require_many : Sp := fun vs H Q _ => vs = [.int 1] ∧ Q .non H
theorem c_p_require_many (T : Ty K mg CB CC CF) : C8.Cal P w K mg base 2 "require_many" sp_p_require_many [] := by
  refine cal_of T.d_p_require_many sc_p_require_many (fun _ _ _ _ _ _ us hl => match us, hl with | [_], _ => rfl) (fun vs H Q E h => ?_) (fun cdv A outer f s H vs Q E hr h => ?_)
  · obtain ⟨rfl, _⟩ := h
    rfl
  · obtain ⟨rfl, q⟩ := h
    refine ⟨_, (pss_one (ps_if (PW.pt (pw_or (pt_not (pt_val (C8.pe_c (c_p_is_integer T) hr (by decide) (by rfl) (pa_cons (pv 0) pa_nil)))) (pw_or1 (pt_cmpR op_lt (pv 0) pe_int (nomark _)))))
    (pss_one ps_never)
    pss_nil)), ?_⟩
    refine ⟨_, rfl, 1, rfl, by decide, by decide, _, rfl, ?_⟩
    exact ⟨_, rfl, _, _, rfl, rfl, _, rfl, q⟩
def sp_p_require_call : Sp := fun vs H Q _ => ∃ (f : Addr) (L : LF), vs = [.ref f] ∧ H f = some (LamO f L) ∧ ∀ H', Kp [] H H' → Q .non H'
theorem c_p_require_call (T : Ty K mg CB CC CF) : C8.Cal P w K mg base 1 "require_call" sp_p_require_call [] := by
  refine cal_of T.d_p_require_call sc_p_require_call (fun _ _ _ _ _ _ us hl => match us, hl with | [_], _ => rfl) (fun vs H Q E h => ?_) (fun cdv A outer f s H vs Q E hr h => ?_)
  · obtain ⟨f, L, rfl, _⟩ := h
    rfl
  · obtain ⟨fn, L, rfl, hf, q⟩ := h
    have h3 : sizeLine = 16777216 := sizeLine_eq
    refine ⟨_, (pss_one (ps_if (PW.pt (pw_or (pt_cmpR op_isN (pv 0) pe_non (nomark _)) (pw_or1 (pt_val (pe_callB call_isiF (by rfl) T.n_isinstance (by decide +kernel) (pa_cons (pv 0) (pa_cons (pe_tup (pa_cons (pe_bltn (v := .ty "int") (u := .type "int") (by rfl) T.n_int (by decide +kernel) rfl) (pa_cons (pe_bltn (v := .ty "str") (u := .type "str") (by rfl) T.n_str (by decide +kernel) rfl) (pa_cons (pe_bltn (v := .ty "tuple") (u := .type "tuple") (by rfl) T.n_tuple (by decide +kernel) rfl) (pa_cons (pe_bltn (v := .ty "list") (u := .type "list") (by rfl) T.n_list (by decide +kernel) rfl) (pa_cons (pe_bltn (v := .ty "dict") (u := .type "dict") (by rfl) T.n_dict (by decide +kernel) rfl) pa_nil)))))) pa_nil)))))))
    (pss_one ps_never)
    pss_nil)), ?_⟩
    refine ⟨_, rfl, rfl, _, rfl, ?_⟩
    refine ⟨_, rfl, by show 5 ≤ sizeLine; omega, fun p hp => ?_⟩
    refine ⟨fn, L, p, _, [.type "int", .type "str", .type "tuple", .type "list", .type "dict"], false, rfl, by rw [upd_ne (ne_of_none hf hp)]; exact hf, upd_same, .cons (.ty _) (.cons (.ty _) (.cons (.ty _) (.cons (.ty _) (.cons (.ty _) .nil)))), ?_, _, rfl, q _ ((kp_refl H).up (.inl hp))⟩
    refine kitAny_cons (b := false) (kit_ty (by decide +kernel)) (fun _ => ?_) (fun z => nomatch z)
    refine kitAny_cons (b := false) (kit_ty (by decide +kernel)) (fun _ => ?_) (fun z => nomatch z)
    refine kitAny_cons (b := false) (kit_ty (by decide +kernel)) (fun _ => ?_) (fun z => nomatch z)
    refine kitAny_cons (b := false) (kit_ty (by decide +kernel)) (fun _ => ?_) (fun z => nomatch z)
    refine kitAny_cons (b := false) (kit_ty (by decide +kernel)) (fun _ => rfl) (fun z => nomatch z)
/-! ### reading a shelf -/
/-- a property or method that reads: nothing but new objects -/
def sp_near (CF : Addr) : Sp := fun vs H Q _ => ∃ (s dx : Addr) (fs : List (Str × V)) (x : V), vs = [.ref s, x] ∧ H s = some (.ins CF dx fs) ∧ Q .non H
theorem c_Shelf_require_near (T : Ty K mg CB CC CF) : C8.Met P w K mg base 1 CF "require_near" (sp_near CF) [] := by
  refine met_of T.m_Shelf_require_near T.cl_Shelf sc_p_Shelf_require_near (fun _ _ _ _ _ _ us hl => match us, hl with | [_, _], _ => rfl) (fun vs H Q E h => ?_) (fun cdv A outer f s H vs Q E hr h => ?_)
  · obtain ⟨s, dx, fs, x, rfl, _⟩ := h
    rfl
  · obtain ⟨s, dx, fs, x, rfl, _, q⟩ := h
    exact ⟨_, (pss_one ps_pass), q⟩
def sp_most (CF : Addr) : Sp := fun vs H Q _ => ∃ (s dx : Addr) (fs : List (Str × V)), vs = [.ref s] ∧ H s = some (.ins CF dx fs) ∧ Q .non H
theorem c_Shelf_most_behind (T : Ty K mg CB CC CF) : C8.Met P w K mg base 1 CF "most_behind" (sp_most CF) [] := by
  refine met_of T.m_Shelf_most_behind T.cl_Shelf sc_p_Shelf_most_behind (fun _ _ _ _ _ _ us hl => match us, hl with | [_], _ => rfl) (fun vs H Q E h => ?_) (fun cdv A outer f s H vs Q E hr h => ?_)
  · obtain ⟨s, dx, fs, rfl, _⟩ := h
    rfl
  · obtain ⟨s, dx, fs, rfl, _, q⟩ := h
    exact ⟨_, (pss_one (ps_ret pe_non)), q⟩
def sp_noblock (CB CC CF : Addr) : Sp := fun vs H Q _ => ∃ (s : Addr) (bk : Bk) (pl : Pl) (rows : Tb) (dn ud : List Chg) (wf fp : List Addr), vs = [.ref s] ∧ ShelfH CB CC CF H s bk pl rows dn ud wf fp ∧ Q .non H
theorem c_Shelf_require_no_block (T : Ty K mg CB CC CF) : C8.Met P w K mg base 1 CF "require_no_block" (sp_noblock CB CC CF) [] := by
  refine met_of T.m_Shelf_require_no_block T.cl_Shelf sc_p_Shelf_require_no_block (fun _ _ _ _ _ _ us hl => match us, hl with | [_], _ => rfl) (fun vs H Q E h => ?_) (fun cdv A outer f s H vs Q E hr h => ?_)
  · obtain ⟨s, bk, pl, rows, dn, ud, wf, fp, rfl, _⟩ := h
    rfl
  · obtain ⟨s, bk, pl, rows, dn, ud, wf, fp, rfl, ⟨dx, c, tx, sm, ld, lu, lw, rw, ds, us, rfl, a⟩, q⟩ := h
    refine ⟨_, (pss_one (ps_if (pt_cmpR op_notN (pe_fldK (K := K) rfl (pv 0)) pe_non (nomark _))
    (pss_one ps_never)
    pss_nil)), ?_⟩
    exact ⟨_, rfl, _, _, _, _, _, rfl, a.hs, T.cl_Shelf, T.no_Shelf_own_block, rfl, rfl, _, rfl, q⟩
def sp_known (CB CC CF : Addr) : Sp := fun vs H Q _ => ∃ (s : Addr) (bk : Bk) (pl : Pl) (rows : Tb) (dn ud : List Chg) (wf fp : List Addr) (n : Tx0), vs = [.ref s, tv n] ∧ ShelfH CB CC CF H s bk pl rows dn ud wf fp ∧ n ∈ rows.map (·.1) ∧ ∀ H', Kp [] H H' → Q .non H'
theorem getA_of_mem {β : Type} {m : List (Tx0 × β)} {n : Tx0} (h : n ∈ m.map (·.1)) : ∃ t, getA m n = some t := by
  cases e : getA m n with
  | none => exact absurd h (getA_none.mp e)
  | some t => exact ⟨t, rfl⟩
theorem ShAt.dget {G : Hp} {s : Addr} {bk : Bk} {pl : Pl} {rows : Tb} {dn ud : List Chg} {wf : List Addr} {dx c tx sm ld lu lw : Addr} {rw : Tb} {ds us : List Addr} (a : ShAt CB CC CF G s bk pl rows dn ud wf dx c tx sm ld lu lw rw ds us) (n : Tx0) : DGet G tx (tv n) ((getA rows n).map tv) := by
  refine .inl ⟨dV tv rw, kx n, .inl a.ht, rfl, ?_⟩
  rw [valV_dV, getA_perm a.pr a.ok.nd]
theorem c_Shelf_require_known (T : Ty K mg CB CC CF) : C8.Met P w K mg base 4 CF "require_known" (sp_known CB CC CF) [] := by
  refine met_of T.m_Shelf_require_known T.cl_Shelf sc_p_Shelf_require_known (fun _ _ _ _ _ _ us hl => match us, hl with | [_, _], _ => rfl) (fun vs H Q E h => ?_) (fun cdv A outer f s H vs Q E hr h => ?_)
  · obtain ⟨s, bk, pl, rows, dn, ud, wf, fp, n, rfl, _⟩ := h
    rfl
  · obtain ⟨s, bk, pl, rows, dn, ud, wf, fp, n, rfl, ⟨dx, c, tx, sm, ld, lu, lw, rw, ds, us, rfl, a⟩, hn, q⟩ := h
    refine ⟨_, (pss_one (ps_if (PW.pt (pw_or (pt_not (pt_val (C8.pe_c (c_p_is_name T) hr (by decide) (by rfl) (pa_cons (pv 1) pa_nil)))) (pw_or1 (pt_cmp (pc_dnotin (hu1 hr) (pv 1) (pe_fldK (K := K) rfl (pv 0)))))))
    (pss_one ps_never)
    pss_nil)), ?_⟩
    obtain ⟨t, ht⟩ := getA_of_mem hn
    have hm := getA_some ht
    refine ⟨_, rfl, n, rfl, a.ok.nm _ hm, fun H1 hk => ⟨_, rfl, ?_⟩⟩
    have a1 := a.kp0 hk
    have hg := a1.dget n
    rw [ht] at hg
    exact ⟨_, rfl, _, rfl, _, _, _, _, _, rfl, a1.hs, T.cl_Shelf, T.no_Shelf_own_texts, rfl, _, _, rfl, hg, _, rfl, q H1 hk⟩
def sp_names (CB CC CF : Addr) : Sp := fun vs H Q _ => ∃ (s : Addr) (bk : Bk) (pl : Pl) (rows : Tb) (dn ud : List Chg) (wf fp : List Addr), vs = [.ref s] ∧ ShelfH CB CC CF H s bk pl rows dn ud wf fp ∧
  ∀ (p : Addr) (ns : List Tx0) (H' : Hp), H p = none → ns.Perm (rows.map (·.1)) → Srt ns → Kp [] H H' → H' p = some (.tup (ns.map tv)) → Q (.ref p) H'
theorem c_Shelf_names (T : Ty K mg CB CC CF) : Prp P w K mg base 1 CF "names" (sp_names CB CC CF) := by
  refine prp_of T.p_Shelf_names T.cl_Shelf sc_p_Shelf_names (fun _ _ _ _ _ _ us hl => match us, hl with | [_], _ => rfl) (fun vs H Q E h => ?_) (fun cdv A outer g s H vs Q E hr h => ?_)
  · obtain ⟨s, bk, pl, rows, dn, ud, wf, fp, rfl, _⟩ := h
    rfl
  · obtain ⟨s, bk, pl, rows, dn, ud, wf, fp, rfl, ⟨dx, c, tx, sm, ld, lu, lw, rw, ds, us, rfl, a⟩, k⟩ := h
    refine ⟨_, (pss_one (ps_ret (pe_callTy call_tuple_of (by rfl) T.n_tuple (by decide +kernel) (pa_cons (pe_callTy (call_listD rfl) (by rfl) T.n_list (by decide +kernel) (pa_cons (pe_fldK (K := K) rfl (pv 0)) pa_nil)) pa_nil)))), ?_⟩
    refine ⟨_, rfl, _, _, _, _, _, rfl, a.hs, T.cl_Shelf, T.no_Shelf_own_texts, rfl, tx, _, rfl, .inl a.ht, fun l hl => ?_⟩
    have e : ((dV tv rw).map fun kv => kV kv.1) = (rw.map (·.1)).map tv := by
      unfold dV
      rw [List.map_map, List.map_map]
      rfl
    rw [e]
    have k1 : Kp [] H (upd H l (.lst ((rw.map (·.1)).map tv))) := (kp_refl H).up (.inl hl)
    have hl1 : upd H l (.lst ((rw.map (·.1)).map tv)) l = some (.lst ((rw.map (·.1)).map tv)) := upd_same
    generalize upd H l (.lst ((rw.map (·.1)).map tv)) = H1 at k1 hl1
    refine ⟨l, _, rfl, .inl ⟨SqL.of hl1, fun p hp => ?_⟩⟩
    have hp0 := k1.free hp (by simp)
    exact k p _ _ hp0 (a.pr.map _) a.so (k1.up (.inl hp0)) upd_same
def sp_num (CB CC CF : Addr) (b : Bool) : Sp := fun vs H Q _ => ∃ (s : Addr) (bk : Bk) (pl : Pl) (rows : Tb) (dn ud : List Chg) (wf fp : List Addr), vs = [.ref s] ∧ ShelfH CB CC CF H s bk pl rows dn ud wf fp ∧ Q (.int (if b then sumW (prM bk pl) rows else sumW (bhM bk pl) rows)) H
theorem c_Shelf_total (T : Ty K mg CB CC CF) : Prp P w K mg base 1 CF "total" (sp_num CB CC CF true) := by
  refine prp_of T.p_Shelf_total T.cl_Shelf sc_p_Shelf_total (fun _ _ _ _ _ _ us hl => match us, hl with | [_], _ => rfl) (fun vs H Q E h => ?_) (fun cdv A outer g s H vs Q E hr h => ?_)
  · obtain ⟨s, bk, pl, rows, dn, ud, wf, fp, rfl, _⟩ := h
    rfl
  · obtain ⟨s, bk, pl, rows, dn, ud, wf, fp, rfl, ⟨dx, c, tx, sm, ld, lu, lw, rw, ds, us, rfl, a⟩, q⟩ := h
    refine ⟨_, (pss_one (ps_ret (pe_ix (ix_tupK (K := K) rfl) (pe_fldK (K := K) rfl (pv 0)) pe_int (fun _ _ => rfl)))), ?_⟩
    exact ⟨_, rfl, _, _, _, _, _, rfl, a.hs, T.cl_Shelf, T.no_Shelf_own_sums, rfl, sm, _, 0, _, rfl, rfl, SqT.of a.hm, rfl, q⟩
theorem c_Shelf_lag (T : Ty K mg CB CC CF) : Prp P w K mg base 1 CF "lag" (sp_num CB CC CF false) := by
  refine prp_of T.p_Shelf_lag T.cl_Shelf sc_p_Shelf_lag (fun _ _ _ _ _ _ us hl => match us, hl with | [_], _ => rfl) (fun vs H Q E h => ?_) (fun cdv A outer g s H vs Q E hr h => ?_)
  · obtain ⟨s, bk, pl, rows, dn, ud, wf, fp, rfl, _⟩ := h
    rfl
  · obtain ⟨s, bk, pl, rows, dn, ud, wf, fp, rfl, ⟨dx, c, tx, sm, ld, lu, lw, rw, ds, us, rfl, a⟩, q⟩ := h
    refine ⟨_, (pss_one (ps_ret (pe_ix (ix_tupK (K := K) rfl) (pe_fldK (K := K) rfl (pv 0)) pe_int (fun _ _ => rfl)))), ?_⟩
    exact ⟨_, rfl, _, _, _, _, _, rfl, a.hs, T.cl_Shelf, T.no_Shelf_own_sums, rfl, sm, _, 1, _, rfl, rfl, SqT.of a.hm, rfl, q⟩
def sp_slen (CB CC CF : Addr) : Sp := fun vs H Q _ => ∃ (s : Addr) (bk : Bk) (pl : Pl) (rows : Tb) (dn ud : List Chg) (wf fp : List Addr), vs = [.ref s] ∧ ShelfH CB CC CF H s bk pl rows dn ud wf fp ∧ Q (.int rows.length) H
theorem c_Shelf_len (T : Ty K mg CB CC CF) : Spc P w K mg base 1 CF "__len__" (sp_slen CB CC CF) := by
  refine spc_of T.s_Shelf___len__ sc_p_Shelf___len__ (fun _ _ _ _ _ _ us hl => match us, hl with | [_], _ => rfl) (fun vs H Q E h => ?_) (fun cdv A outer f s H vs Q E hr h => ?_)
  · obtain ⟨s, bk, pl, rows, dn, ud, wf, fp, rfl, _⟩ := h
    rfl
  · obtain ⟨s, bk, pl, rows, dn, ud, wf, fp, rfl, ⟨dx, c, tx, sm, ld, lu, lw, rw, ds, us, rfl, a⟩, q⟩ := h
    refine ⟨_, (pss_one (ps_ret (pe_callB call_lenD (by rfl) T.n_len (by decide +kernel) (pa_cons (pe_fldK (K := K) rfl (pv 0)) pa_nil)))), ?_⟩
    refine ⟨_, rfl, _, _, _, _, _, rfl, a.hs, T.cl_Shelf, T.no_Shelf_own_texts, rfl, tx, dV tv rw, rfl, a.ht, ?_⟩
    rw [dV_length, a.pr.length_eq]
    exact q
end
end K75
-- part W7
set_option Elab.async false
set_option linter.all false
set_option maxRecDepth 100000
set_option maxHeartbeats 4000000
namespace K75
open PySem PySem.Spec PyProof.Rows L2
theorem dc_it {J : It} {n : Nat} {G : Hp → Prop} {Y : Nat → Hp → V → Hp → Prop} (w : Walk J n G Y) {g : TG} {tt : TT} {tk tz : TE} {vs : List Nat} {σ : L2.St} {H1 : Hp} {D : Addr} {Qd : Hp → Prop} (Pv : Nat → Hp → Prop) (h0 : Pv 0 (upd H1 D (.dK []))) (hG : ∀ i H, i ≤ n → Pv i H → G H)
    (hs : ∀ i x H H', i < n → Pv i H → Y i H x H' → g x (wipe σ vs) H' fun σ2 H2 => wipe σ2 vs = wipe σ vs ∧ tt σ2 H2 fun b H3 =>
      if b = true then tk σ2 H3 fun y H4 => tz σ2 H4 fun z H5 => ∃ kvs k, y = kV k ∧ H5 D = some (.dK kvs) ∧ kvs.length < sizeLine ∧ Pv (i + 1) (upd H5 D (.dK (putK kvs k z))) else Pv (i + 1) H3) (hd : ∀ H, Pv n H → Qd H) :
    ∃ W : Nat → Nat → Hp → Prop, (∃ m, W 0 m (upd H1 D (.dK []))) ∧ ∀ i m H, W i m H →
      (J.stop i H ∧ Qd H) ∨ (J.go i H ∧ ∃ Nx : Hp → Prop, (∀ H', Nx H' → ∃ m', m' < m ∧ W (i + 1) m' H') ∧ ∀ x H', J.yld i H x H' → g x (wipe σ vs) H' fun σ2 H2 => wipe σ2 vs = wipe σ vs ∧ tt σ2 H2 fun b H3 =>
        if b = true then tk σ2 H3 fun y H4 => tz σ2 H4 fun z H5 => ∃ kvs k, y = kV k ∧ H5 D = some (.dK kvs) ∧ kvs.length < sizeLine ∧ Nx (upd H5 D (.dK (putK kvs k z))) else Nx H3) := by
  refine ⟨fun i m H => m = n - i ∧ i ≤ n ∧ Pv i H, ⟨n, by simp, Nat.zero_le _, h0⟩, ?_⟩
  rintro i m H ⟨rfl, hi, p⟩
  have q := hG i H hi p
  by_cases hlt : i < n
  · refine .inr ⟨w.goes i H hlt q, Pv (i + 1), fun H' p' => ⟨n - (i + 1), by omega, rfl, hlt, p'⟩, fun x H' y => hs i x H H' hlt p (w.yields i H x H' hlt q y)⟩
  · have e : i = n := by omega
    subst e
    exact .inl ⟨w.stops H q, hd H p⟩
theorem take_snoc {α : Type} {l : List α} {i : Nat} {x : α} (h : l[i]? = some x) : l.take (i + 1) = l.take i ++ [x] := by rw [List.take_add_one, h]; rfl
/-- {k: v for k, v in d.items() if ..} over a dict of texts -/
theorem dc_items {rw : Tb} {keep : Tx0 × Tx0 → Bool} {d D : Addr} {o : Obj} {g : TG} {tt : TT} {tk tz : TE} {vs : List Nat} {σ : L2.St} {H1 : Hp} {Qd : Hp → Prop} (hd : H1 d = some (.frz o (.dK (dV tv rw)))) (hD : H1 D = none) (nd : (rw.map (·.1)).Nodup) (hz : rw.length < sizeLine)
    (hs : ∀ p ∈ rw, ∀ (H : Hp) (Tp : Addr) (kvs : List (Key × V)) (Nx : Hp → Prop), Kp [] H1 H → H Tp = none → H D = some (.dK kvs) → kvs.length < sizeLine → (keep p = true → Nx (upd (upd H Tp (.tup [tv p.1, tv p.2])) D (.dK (putK kvs (kx p.1) (tv p.2))))) → (keep p = false → Nx (upd H Tp (.tup [tv p.1, tv p.2]))) →
      g (.ref Tp) (wipe σ vs) (upd H Tp (.tup [tv p.1, tv p.2])) fun σ2 H2 => wipe σ2 vs = wipe σ vs ∧ tt σ2 H2 fun b H3 =>
        if b = true then tk σ2 H3 fun y H4 => tz σ2 H4 fun z H5 => ∃ kvs k, y = kV k ∧ H5 D = some (.dK kvs) ∧ kvs.length < sizeLine ∧ Nx (upd H5 D (.dK (putK kvs k z))) else Nx H3)
    (hq : ∀ H, Kp [] H1 H → H D = some (.dK (dV tv (rw.filter keep))) → Qd H) :
    ∃ W : Nat → Nat → Hp → Prop, (∃ m, W 0 m (upd H1 D (.dK []))) ∧ ∀ i m H, W i m H →
      ((Iti d o (dV tv rw)).stop i H ∧ Qd H) ∨ ((Iti d o (dV tv rw)).go i H ∧ ∃ Nx : Hp → Prop, (∀ H', Nx H' → ∃ m', m' < m ∧ W (i + 1) m' H') ∧ ∀ x H', (Iti d o (dV tv rw)).yld i H x H' → g x (wipe σ vs) H' fun σ2 H2 => wipe σ2 vs = wipe σ vs ∧ tt σ2 H2 fun b H3 =>
        if b = true then tk σ2 H3 fun y H4 => tz σ2 H4 fun z H5 => ∃ kvs k, y = kV k ∧ H5 D = some (.dK kvs) ∧ kvs.length < sizeLine ∧ Nx (upd H5 D (.dK (putK kvs k z))) else Nx H3) := by
  have hl : (dV tv rw).length = rw.length := dV_length _ _
  refine dc_it (walk_items (d := d) (o := o) (kvs := dV tv rw)) (fun i H => Kp [] H1 H ∧ H D = some (.dK (dV tv ((rw.take i).filter keep)))) ⟨(kp_refl H1).up (.inl hD), upd_same⟩ (fun i H _ h => h.1 _ _ hd (by simp)) ?_ (fun H h => hq H h.1 ?_)
  · rintro i x H H' hi ⟨hk, hDd⟩ ⟨Tp, x1, y1, rfl, hT, rfl, hx, hy⟩
    rw [hl] at hi
    have ei : (dV tv rw)[i]? = some (kx rw[i].1, tv rw[i].2) := by
      unfold dV
      rw [List.getElem?_map, List.getElem?_eq_getElem hi]
      rfl
    have hx : ((dV tv rw)[i]?.map fun kv => kV kv.1) = some x1 := hx
    have hy : ((dV tv rw)[i]?.map Prod.snd) = some y1 := hy
    rw [ei] at hx hy
    have hx1 : tv rw[i].1 = x1 := Option.some.inj hx
    have hy1 : tv rw[i].2 = y1 := Option.some.inj hy
    subst hx1
    subst hy1
    have neT : D ≠ Tp := ne_of_none hDd hT
    have hk1 : Kp [] H1 (upd H Tp (.tup [tv rw[i].1, tv rw[i].2])) := hk.up (.inl (hk.free hT (by simp)))
    have ht : rw.take (i + 1) = rw.take i ++ [rw[i]] := take_snoc (List.getElem?_eq_getElem hi)
    have hlen : ((rw.take i).filter keep).length ≤ rw.length := Nat.le_trans (List.length_filter_le _ _) (by rw [List.length_take]; omega)
    refine hs rw[i] (List.getElem_mem hi) H Tp _ _ hk hT hDd (by rw [dV_length]; omega) (fun hkp => ?_) (fun hkp => ?_)
    · refine ⟨hk1.up (.inl hD), ?_⟩
      have hn : rw[i].1 ∉ ((rw.take i).filter keep).map (·.1) := fun h => by
        obtain ⟨q, hq, e⟩ := List.mem_map.mp h
        have nd2 := nd
        rw [← List.take_append_drop i rw, List.drop_eq_getElem_cons hi, List.map_append, List.map_cons] at nd2
        exact (List.nodup_append.mp nd2).2.2 q.1 (List.mem_map_of_mem (List.mem_filter.mp hq).1) rw[i].1 (List.mem_cons_self ..) e
      rw [upd_same, putK_dV, putA_new hn, ht, List.filter_append, show [rw[i]].filter keep = [rw[i]] from by rw [List.filter_cons_of_pos hkp]; rfl]
    · refine ⟨hk1, ?_⟩
      rw [upd_ne neT, ht, List.filter_append, show [rw[i]].filter keep = [] from by rw [List.filter_cons_of_neg (by rw [hkp]; exact Bool.false_ne_true)]; rfl, List.append_nil]
      exact hDd
  · have := h.2
    rw [hl, List.take_length] at this
    exact this
end K75
-- part W8
set_option Elab.async false
set_option linter.all false
set_option maxRecDepth 100000
set_option maxHeartbeats 4000000
namespace K75
open PySem PySem.Spec PyProof.Rows L2
section
variable {P : Program} {w : World} {K : PySem.W.Frag} {mg : Str → Option Value} {base : Heap} {CB CC CF : Addr}
def sp_texts (CB CC CF : Addr) : Sp := fun vs H Q _ => ∃ (s : Addr) (bk : Bk) (pl : Pl) (rows : Tb) (dn ud : List Chg) (wf fp : List Addr), vs = [.ref s] ∧ ShelfH CB CC CF H s bk pl rows dn ud wf fp ∧
  ∀ (p : Addr) (rw : Tb) (H' : Hp), H p = none → rw.Perm rows → Kp [] H H' → H' p = some (.dK (dV tv rw)) → Q (.ref p) H'
theorem c_Shelf_texts (T : Ty K mg CB CC CF) : Prp P w K mg base 1 CF "texts" (sp_texts CB CC CF) := by
  refine prp_of T.p_Shelf_texts T.cl_Shelf sc_p_Shelf_texts (fun _ _ _ _ _ _ us hl => match us, hl with | [_], _ => rfl) (fun vs H Q E h => ?_) (fun cdv A outer g s H vs Q E hr h => ?_)
  · obtain ⟨s, bk, pl, rows, dn, ud, wf, fp, rfl, _⟩ := h
    rfl
  · obtain ⟨s, bk, pl, rows, dn, ud, wf, fp, rfl, ⟨dx, c, tx, sm, ld, lu, lw, rw, ds, us, rfl, a⟩, k⟩ := h
    have h3 : sizeLine = 16777216 := sizeLine_eq
    have h50 := a.ok.le
    have hl := a.pr.length_eq
    refine ⟨_, (pss_one (ps_ret (pe_lock (pe_dc (own := [("name", 1), ("text", 2)]) rfl sc_p_Shelf_texts.nd (pi_items (pe_fldK (K := K) rfl (pv 0))) (blkOk_by (own := [("name", 1), ("text", 2)]) (N := N_p_Shelf_texts) (sc := (defScope s_p_Shelf_texts)) (by decide +kernel)) (fun _ _ _ _ _ => (pg_tupK (K := K) (n := 2) rfl (by rfl) (pgs_cons (pg_name (i := 1) sc_p_Shelf_texts.nd rfl (Or.inl rfl)) (pgs_cons (pg_name (i := 2) sc_p_Shelf_texts.nd rfl (Or.inl rfl)) pgs_nil)))) (fun _ _ _ _ _ => pts_nil) (fun _ _ _ _ _ => (pv 1)) (fun _ _ _ _ _ => (pv 2)))))), ?_⟩
    refine ⟨tx, _, a.ht, trivial, fun od => ?_⟩
    have nsx : s ≠ tx := ne_of a.hs a.ht (fun z => nomatch z)
    refine ⟨_, rfl, _, _, _, _, _, rfl, by rw [upd_ne nsx]; exact a.hs, T.cl_Shelf, T.no_Shelf_own_texts, rfl, tx, od, _, rfl, upd_same, fun D hD => ?_⟩
    refine dc_items (keep := fun _ => true) upd_same hD ((a.pr.map _).nodup_iff.mpr a.ok.nd) (by omega) ?_ ?_
    · intro p hp H2 Tp kvs Nx hk hT hDd hz h1 h2
      refine ⟨Tp, _, rfl, SqT.of upd_same, rfl, _, _, rfl, _, _, rfl, rfl, rfl, ?_⟩
      refine ⟨_, rfl, _, rfl, kvs, kx p.1, rfl, ?_, hz, h1 rfl⟩
      rw [upd_ne (ne_of_none hDd hT)]
      exact hDd
    · intro H2 hk hDd
      have e : rw.filter (fun _ => true) = rw := List.filter_eq_self.mpr fun _ _ => rfl
      rw [e] at hDd
      have hD0 : H D = none := by
        have := hD
        unfold upd at this
        split at this
        · cases this
        · exact this
      have hk2 : Kp [] H (upd H2 tx (.dK (dV tv rw))) := fun b o eb _ => by
        by_cases hb : b = tx
        · rw [hb, upd_same, ← a.ht, ← hb]
          exact eb
        · rw [upd_ne hb]
          exact hk b o (by rw [upd_ne hb]; exact eb) (by simp)
      refine ⟨hk _ _ upd_same (by simp), ?_⟩
      exact k D rw _ hD0 a.pr hk2 (by rw [upd_ne (ne_of_none a.ht hD0).symm]; exact hDd)
/-! weighing -/
def otOk (bk : Bk) (o : Option Tx0) : Prop := ∀ t, o = some t → Ov bk t ∧ t.length ≤ 8000
def sp_weigh (CB CC CF : Addr) : Sp := fun vs H Q _ => ∃ (s dx c : Addr) (fs : List (Str × V)) (bk : Bk) (pl : Pl) (o : Option Tx0), vs = [.ref s, otv o] ∧ H s = some (.ins CF dx fs) ∧ fs.lookup ("own_cutter" : Str) = some (.ref c) ∧ CutH CB CC H c bk pl ∧ otOk bk o ∧
  ∀ (p : Addr) (H' : Hp), H p = none → Kp [] H H' → H' p = some (.tup [.int (ow (prM bk pl) o), .int (ow (bhM bk pl) o)]) → Q (.ref p) H'
theorem c_Shelf_weigh (T : Ty K mg CB CC CF) : C8.Met P w K mg base 6 CF "weigh" (sp_weigh CB CC CF) [] := by
  refine met_of T.m_Shelf_weigh T.cl_Shelf sc_p_Shelf_weigh (fun _ _ _ _ _ _ us hl => match us, hl with | [_, _], _ => rfl) (fun vs H Q E h => ?_) (fun cdv A outer f s H vs Q E hr h => ?_)
  · obtain ⟨s, dx, c, fs, bk, pl, o, rfl, _⟩ := h
    rfl
  · obtain ⟨s, dx, c, fs, bk, pl, o, rfl, hs, hfs, ⟨dxc, ab, oo, tb, en, sz, rw0, la, ns, ca⟩, hok, k⟩ := h
    have h3 : sizeLine = 16777216 := sizeLine_eq
    refine ⟨_, (pss_cons (ps_if (pt_cmpR op_isN (pv 1) pe_non (nomark _))
    (pss_one (ps_ret (pe_tup (pa_cons pe_int (pa_cons pe_int pa_nil)))))
    pss_nil)
  (pss_one (ps_ret (pe_tup (pa_cons (C8.pe_mt (c_Cutter_price_in T) hr (by decide) (pe_fldK (K := K) rfl (pv 0)) (pa_cons (pv 1) pa_nil)) (pa_cons (C8.pe_mt (c_Cutter_behind T) hr (by decide) (pe_fldK (K := K) rfl (pv 0)) (pa_cons (pv 1) pa_nil)) pa_nil)))))), ?_⟩
    cases o with
    | none =>
      refine ⟨_, rfl, rfl, _, rfl, ?_⟩
      refine ⟨by show 2 ≤ sizeLine; omega, fun p hp => ?_⟩
      exact k p _ hp ((kp_refl H).up (.inl hp)) upd_same
    | some t =>
      obtain ⟨ho, htl⟩ := hok t rfl
      refine ⟨_, rfl, rfl, _, rfl, ?_⟩
      refine ⟨_, rfl, _, _, _, _, _, rfl, hs, T.cl_Shelf, T.no_Shelf_own_cutter, hfs, c, dxc, _, rfl, ca.ha, rfl, _, rfl, c, bk, pl, t, rfl, ⟨dxc, ab, oo, tb, en, sz, rw0, la, ns, ca⟩, ho, htl, fun H1 hk1 => ?_⟩
      have ca1 := ca.kp0 hk1
      refine ⟨_, rfl, _, _, _, _, _, rfl, hk1 _ _ hs (by simp), T.cl_Shelf, T.no_Shelf_own_cutter, hfs, c, dxc, _, rfl, ca1.ha, rfl, _, rfl, c, bk, pl, t, rfl, ⟨dxc, ab, oo, tb, en, sz, rw0, la, ns, ca1⟩, ho, htl, fun v H2 hk2 hv => ?_⟩
      refine ⟨by show 2 ≤ sizeLine; omega, fun p hp => ?_⟩
      have hk := hk1.trans hk2
      refine k p _ (hk.free hp (by simp)) (hk.up (.inl (hk.free hp (by simp)))) ?_
      rw [upd_same]
      show some (HO.tup [.int (prM bk pl t), .int (prM bk pl t - v)]) = some (HO.tup [.int (prM bk pl t), .int (prM bk pl t - chM bk t)])
      rw [ch_of ca.hb.g hv]
end
end K75
-- part W9
set_option Elab.async false
set_option linter.all false
set_option maxRecDepth 100000
set_option maxHeartbeats 4000000
namespace K75
open PySem PySem.Spec PyProof.Rows L2
theorem none_of_upd {H : Hp} {a b : Addr} {o : HO} (h : upd H a o b = none) : H b = none ∧ b ≠ a := by
  unfold upd at h
  split at h
  · cases h
  · rename_i n
    exact ⟨h, n⟩
section
variable {P : Program} {w : World} {K : PySem.W.Frag} {mg : Str → Option Value} {base : Heap} {CB CC CF : Addr}
/-- what the changing methods of a shelf ask ahead -/
structure ShIn (P : Program) (w : World) (K : PySem.W.Frag) (mg : Str → Option Value) (base : Heap) (CB CC CF : Addr) (H : Hp) (s : Addr) (bk : Bk) (pl : Pl) (rows : Tb) (dn ud : List Chg) (wo : Option Wt) (am : Am) (ms fp : List Addr) : Prop where
  sh : ShelfH CB CC CF (hid ms H) s bk pl rows dn ud (wfs wo) fp
  wh : WoH H wo am
  wk : WoOk P w K mg base wo
  ml : ∀ W, wo = some W → W.m ∈ ms
  mi : ∀ x ∈ ms, ∃ o, H x = some o
  al : am.length ≤ 900
theorem wms_in {wo : Option Wt} {ms : List Addr} (h : ∀ W, wo = some W → W.m ∈ ms) : ∀ x ∈ wms wo, x ∈ ms := fun x hx => by
  cases wo with
  | none => cases hx
  | some W => rw [List.mem_singleton.mp hx]; exact h W rfl
def sp_move (P : Program) (w : World) (K : PySem.W.Frag) (mg : Str → Option Value) (base : Heap) (CB CC CF : Addr) : Sp := fun vs H Q _ => ∃ (s : Addr) (bk : Bk) (pl : Pl) (rows : Tb) (dn ud : List Chg) (wo : Option Wt) (am : Am) (ms fp : List Addr) (n : Tx0) (b a : Option Tx0),
  vs = [.ref s, tv n, otv b, otv a] ∧ ShIn P w K mg base CB CC CF H s bk pl rows dn ud wo am ms fp ∧ getA rows n = b ∧ RowsOk bk (putR rows n a) ∧
  ∀ H', ShelfH CB CC CF (hid ms H') s bk pl (putR rows n a) dn ud (wfs wo) fp → WoH H' wo (putA am n (a.map (bhM bk pl))) → Kp (s :: wms wo) H H' → Q .non H'
theorem otOk_get {bk : Bk} {rows : Tb} (h : RowsOk bk rows) (n : Tx0) : otOk bk (getA rows n) := fun t e => h.tx _ (getA_some e)
theorem otOk_put {bk : Bk} {rows : Tb} {n : Tx0} {a : Option Tx0} (nd : (rows.map (·.1)).Nodup) (h : RowsOk bk (putR rows n a)) : otOk bk a := fun t e => by
  have := otOk_get h n t
  rw [get_put nd] at this
  exact this e
theorem ov_of (f : Tx0 → Int) : ∀ a : Option Tx0, (match a with | none => V.non | some _ => V.int (ow f a)) = ova (a.map f)
  | none => rfl
  | some _ => rfl
theorem c_Shelf_move (T : Ty K mg CB CC CF) : C8.Met P w K mg base 7 CF "move" (sp_move P w K mg base CB CC CF) [] := by
  refine met_of T.m_Shelf_move T.cl_Shelf sc_p_Shelf_move (fun _ _ _ _ _ _ us hl => match us, hl with | [_, _, _, _], _ => rfl) (fun vs H Q E h => ?_) (fun cdv A outer f s0 H vs Q E hr h => ?_)
  · obtain ⟨s, bk, pl, rows, dn, ud, wo, am, ms, fp, n, b, a, rfl, _⟩ := h
    rfl
  · obtain ⟨s, bk, pl, rows, dn, ud, wo, am, ms, fp, n, b, a, rfl, ⟨⟨dx, c, tx, sm, ld, lu, lw, rw, ds, us, rfl, sh⟩, wh, wk, ml, mi, al⟩, hb, hok, k⟩ := h
    have h3 : sizeLine = 16777216 := sizeLine_eq
    refine ⟨_, (pss_cons (ps_par (i := 4) (j := 5) (by rfl) sc_p_Shelf_move.nd rfl rfl (by decide) rfl rfl (pa_cons (C8.pe_mt (c_Shelf_weigh T) hr (by decide) (pv 0) (pa_cons (pv 2) pa_nil)) (pa_cons (C8.pe_mt (c_Shelf_weigh T) hr (by decide) (pv 0) (pa_cons (pv 3) pa_nil)) pa_nil)) (by rfl))
  (pss_cons (ps_set (i := 6) sc_p_Shelf_move.nd rfl (Or.inr rfl) (pe_lock (pe_dc (own := [("one", 8), ("text", 9)]) rfl sc_p_Shelf_move.nd (pi_items (pe_fldK (K := K) rfl (pv 0))) (blkOk_by (own := [("one", 8), ("text", 9)]) (N := N_p_Shelf_move) (sc := (defScope s_p_Shelf_move)) (by decide +kernel)) (fun _ _ _ _ _ => (pg_tupK (K := K) (n := 2) rfl (by rfl) (pgs_cons (pg_name (i := 8) sc_p_Shelf_move.nd rfl (Or.inl rfl)) (pgs_cons (pg_name (i := 9) sc_p_Shelf_move.nd rfl (Or.inl rfl)) pgs_nil)))) (fun _ _ _ _ _ => (pts_one (pt_cmpR op_ne (pv 8) (pv 1) (nomark _)))) (fun _ _ _ _ _ => (pv 8)) (fun _ _ _ _ _ => (pv 9)))))
  (C8.pss_cut (ps_if (pt_cmpR op_notN (pv 3) pe_non (nomark _))
    (pss_one (ps_dput (hu1 hr) (pv 6) (pv 1) (pv 3) rfl))
    pss_nil)
  (C8.pss_cut (ps_fld (pv 0) (pe_dc (own := [("one", 8)]) (g := gName 8) rfl sc_p_Shelf_move.nd (pi_list (pe_callB (call_sortedD rfl) (by rfl) T.n_sorted (by decide +kernel) (pa_cons (pv 6) pa_nil))) (blkOk_by (own := [("one", 8)]) (N := N_p_Shelf_move) (sc := (defScope s_p_Shelf_move)) (by decide +kernel)) (fun _ _ _ _ _ => (pg_name (i := 8) sc_p_Shelf_move.nd rfl (Or.inl rfl))) (fun _ _ _ _ _ => pts_nil) (fun _ _ _ _ _ => (pv 8)) (fun _ _ _ _ _ => (pe_dget (hu1 hr) (pv 6) (pv 8) (fun _ _ => rfl)))) rfl)
  (C8.pss_cut (ps_fld (pv 0) (pe_tup (pa_cons (pe_op op_add (pe_op op_sub (pe_ix (ix_tupK (K := K) rfl) (pe_fldK (K := K) rfl (pv 0)) pe_int (fun _ _ => rfl)) (pe_ix (ix_tupK (K := K) rfl) (pv 4) pe_int (fun _ _ => rfl))) (pe_ix (ix_tupK (K := K) rfl) (pv 5) pe_int (fun _ _ => rfl))) (pa_cons (pe_op op_add (pe_op op_sub (pe_ix (ix_tupK (K := K) rfl) (pe_fldK (K := K) rfl (pv 0)) pe_int (fun _ _ => rfl)) (pe_ix (ix_tupK (K := K) rfl) (pv 4) pe_int (fun _ _ => rfl))) (pe_ix (ix_tupK (K := K) rfl) (pv 5) pe_int (fun _ _ => rfl))) pa_nil))) rfl)
  (pss_one (ps_for PassesOwn.never rfl (pi_list (pe_callTy call_list_of (by rfl) T.n_list (by decide +kernel) (pa_cons (pe_fldK (K := K) rfl (pv 0)) pa_nil))) (pg_name (i := 7) sc_p_Shelf_move.nd rfl (Or.inl rfl))
    (pss_one (ps_expr (pe_callW (i := 7) hr (by decide) rfl (Or.inl rfl) (pa_cons (pv 1) (pa_cons (pe_ifExp (pt_cmpR op_isN (pv 3) pe_non (nomark _)) pe_non (pe_ix (ix_tupK (K := K) rfl) (pv 5) pe_int (fun _ _ => rfl))) pa_nil)))))))))))), ?_⟩
    have hrl := sh.pr.length_eq
    have h50 := sh.ok.le
    have nd := sh.ok.nd
    have ndr : (rw.map (·.1)).Nodup := (sh.pr.map _).nodup_iff.mpr nd
    have a0 := sh.kp0 (hid_sub ms H)
    have nsm : s ∉ ms := (hid_some sh.hs).1
    refine ⟨_, rfl, s, dx, _, rfl, a0.hs, rfl, _, rfl, s, dx, c, _, bk, pl, b, rfl, a0.hs, rfl, a0.hc, by rw [← hb]; exact otOk_get sh.ok n, fun p1 H1 hp1 hk1 e1 => ?_⟩
    have a1 := a0.kp0 hk1
    refine ⟨_, rfl, s, dx, _, rfl, a1.hs, rfl, _, rfl, s, dx, c, _, bk, pl, a, rfl, a1.hs, rfl, a1.hc, otOk_put nd hok, fun p2 H2 hp2 hk2 e2 => ⟨_, _, rfl, ?_⟩⟩
    have a2 := a1.kp0 hk2
    have k2 := hk1.trans hk2
    have e1' := hk2 _ _ e1 (by simp)
    refine ⟨tx, _, a2.ht, trivial, fun od => ?_⟩
    have nsx : s ≠ tx := ne_of a2.hs a2.ht (fun z => nomatch z)
    refine ⟨_, rfl, _, _, _, _, _, rfl, by rw [upd_ne nsx]; exact a2.hs, T.cl_Shelf, T.no_Shelf_own_texts, rfl, tx, od, _, rfl, upd_same, fun D hD => ?_⟩
    obtain ⟨hD0, nDx⟩ := none_of_upd hD
    refine dc_items (keep := fun p => !decide (p.1 = n)) upd_same hD ndr (by omega) ?_ ?_
    · intro p hp Hx Tp kvs Nx hk hT hDd hz h1 h2
      refine ⟨Tp, _, rfl, SqT.of upd_same, rfl, _, _, rfl, _, _, rfl, rfl, rfl, ?_⟩
      refine ⟨_, rfl, _, rfl, rfl, _, rfl, ite2 (fun hc => ?_) (fun hc => ?_)⟩
      · refine ⟨_, rfl, _, rfl, kvs, kx p.1, rfl, by rw [upd_ne (ne_of_none hDd hT)]; exact hDd, hz, h1 ?_⟩
        by_cases e : p.1 = n
        · exfalso
          have hc2 : (!decide (tv p.1 = tv n)) = true := hc
          rw [e] at hc2
          simp at hc2
        · simp [e]
      · refine h2 ?_
        by_cases e : p.1 = n
        · simp [e]
        · exfalso
          apply hc
          show (!decide (tv p.1 = tv n)) = true
          rw [decide_eq_false (fun z => e (SX.S_inj (V.str.inj z)))]
          rfl
    intro H3 hk3 hD3
    have hD3' : H3 D = some (.dK (dV tv (offR rw n))) := hD3
    clear hD3
    have hk3' : Kp [] H2 (upd H3 tx (.dK (dV tv rw))) := fun b o eb _ => by
      by_cases hbx : b = tx
      · rw [hbx, upd_same, ← a2.ht, ← hbx]
        exact eb
      · rw [upd_ne hbx]
        exact hk3 b o (by rw [upd_ne hbx]; exact eb) (by simp)
    refine ⟨hk3 _ _ upd_same (by simp), ?_⟩
    have hD4 : upd H3 tx (.dK (dV tv rw)) D = some (.dK (dV tv (offR rw n))) := by rw [upd_ne nDx]; exact hD3'
    generalize upd H3 tx (.dK (dV tv rw)) = H4 at hk3' hD4
    clear hk3 hD3' hD
    have k4 := k2.trans hk3'
    have hDf : H D = none := k2.free hD0 (by simp)
    have e1'' := hk3' _ _ e1' (by simp)
    have e2' := hk3' _ _ e2 (by simp)
    refine ⟨fun σ H5 => σ = [some (.ref s), some (tv n), some (otv b), some (otv a), some (.ref p1), some (.ref p2), some (.ref D), none, none, none] ∧ Kp [] H H5 ∧ H5 D = some (.dK (dV tv (putR rw n a))) ∧ H5 p1 = some (.tup [.int (ow (prM bk pl) b), .int (ow (bhM bk pl) b)]) ∧ H5 p2 = some (.tup [.int (ow (prM bk pl) a), .int (ow (bhM bk pl) a)]), ?_, ?_⟩
    · cases a with
      | none => exact ⟨_, rfl, rfl, _, rfl, rfl, k4, hD4, e1'', e2'⟩
      | some t =>
        refine ⟨_, rfl, rfl, _, rfl, ?_⟩
        have hlo := len_off rw n
        refine ⟨_, rfl, _, rfl, _, rfl, D, _, rfl, DPut.k (k := kx n) hD4 (by rw [dV_length]; omega), rfl, k4.up (.inl hDf), ?_, ?_, ?_⟩
        · rw [upd_same]
          show some (HO.dK (putK (dV tv (offR rw n)) (kx n) (tv t))) = _
          rw [putK_dV, putA_new off_keys]
          rfl
        · rw [upd_ne (ne_of e1'' hD4 (fun z => nomatch z))]; exact e1''
        · rw [upd_ne (ne_of e2' hD4 (fun z => nomatch z))]; exact e2'
    rintro σ' H5 ⟨rfl, k5, hD5, f1, f2⟩
    clear hD4 e1'' e2' k4 hk3' e1' e2 e1
    have okr : RowsOk bk (putR rw n a) := hok.perm (put_perm sh.pr n a).symm
    have a5 := a0.kp0 k5
    refine ⟨fun σ H6 => ∃ (D2 : Addr) (rw2 : Tb), σ = [some (.ref s), some (tv n), some (otv b), some (otv a), some (.ref p1), some (.ref p2), some (.ref D), none, none, none] ∧ Kp [s] H H6 ∧ H D2 = none ∧ H6 s = some (ShO CF dx c D2 sm ld lu lw) ∧ H6 D2 = some (.dK (dV tv rw2)) ∧ rw2.Perm (putR rows n a) ∧ Srt (rw2.map (·.1)) ∧ H6 p1 = some (.tup [.int (ow (prM bk pl) b), .int (ow (bhM bk pl) b)]) ∧ H6 p2 = some (.tup [.int (ow (prM bk pl) a), .int (ow (bhM bk pl) a)]), ?_, ?_⟩
    · have hml := okr.le
      refine ⟨_, rfl, D, dV tv (putR rw n a), ((putR rw n a).map (·.1)).map SX.S, rfl, .inl hD5, by simp only [dV, List.map_map]; rfl, by rw [List.length_map, List.length_map]; omega, fun ys q hys hso hq => ?_⟩
      obtain ⟨ls, rfl, hls, hsr⟩ := perm_S hys hso
      have kq : Kp [] H5 (upd H5 q (.lst ((ls.map SX.S).map V.str))) := (kp_refl H5).up (.inl hq)
      have hqq : upd H5 q (.lst ((ls.map SX.S).map V.str)) q = some (.lst (ls.map tv)) := by
        rw [upd_same, List.map_map]
        rfl
      generalize upd H5 q (.lst ((ls.map SX.S).map V.str)) = H5' at kq hqq
      have k5' := k5.trans kq
      have hD5' := kq _ _ hD5 (by simp)
      refine ⟨q, rfl, ⟨_, SqL.of hqq⟩, fun D2 hD2 => ?_⟩
      have hqD := ne_of_none hqq hD2
      have hDD := ne_of_none hD5' hD2
      have hlsl := hls.length_eq
      rw [List.length_map] at hlsl
      have hD2f : H D2 = none := k5'.free hD2 (by simp)
      refine dc_texts (f := tv) ls (fun t => (getA (putR rw n a) t).getD []) (hls.nodup_iff.mpr okr.nd) (fun kvs => SqL.of (by rw [upd_ne hqD]; exact hqq)) (by omega) ?_ ?_
      · intro t ht kvs Nx hz nx
        obtain ⟨p, hp, ep⟩ := List.mem_map.mp (hls.mem_iff.mp ht)
        have hg := getA_mem okr.nd (show (p.1, p.2) ∈ putR rw n a from hp)
        rw [ep] at hg
        refine ⟨rfl, _, rfl, _, rfl, _, rfl, D, tv p.2, rfl, ?_, kvs, kx t, rfl, upd_same, hz, ?_⟩
        · exact dget_S (f := tv) (by rw [upd_ne hDD]; exact hD5') hg
        · rw [upd_upd]
          rw [hg] at nx
          exact nx
      have kD : Kp [] H5' (upd H5' D2 (.dK (dV tv (ls.map fun t => (t, (getA (putR rw n a) t).getD []))))) := (kp_refl H5').up (.inl hD2)
      have hDn : upd H5' D2 (.dK (dV tv (ls.map fun t => (t, (getA (putR rw n a) t).getD [])))) D2 = some (.dK (dV tv (ls.map fun t => (t, (getA (putR rw n a) t).getD [])))) := upd_same
      generalize upd H5' D2 (.dK (dV tv (ls.map fun t => (t, (getA (putR rw n a) t).getD [])))) = H6 at kD hDn
      have k6 := k5'.trans kD
      have kqD := kq.trans kD
      have s6 := k6 _ _ a0.hs (by simp)
      have nsD : D2 ≠ s := (ne_of_none a0.hs hD2f).symm
      refine ⟨_, rfl, s, CF, dx, _, rfl, s6, T.cl_Shelf, T.no_Shelf_own_texts, by simp, D2, _, rfl, (k6.any [s]).up (.inr (by simp)), hD2f, upd_same, ?_, (tb_dict (ls := rows) okr.nd hls).trans (put_perm sh.pr n a), ?_, ?_, ?_⟩
      · rw [upd_ne nsD]; exact hDn
      · rw [List.map_map]
        have e : ((fun x : Tx0 × Tx0 => x.1) ∘ fun t => (t, (getA (putR rw n a) t).getD [])) = id := rfl
        rw [e, List.map_id]
        exact hsr
      · rw [upd_ne (ne_of (kqD _ _ f1 (by simp)) s6 (fun z => nomatch z))]; exact kqD _ _ f1 (by simp)
      · rw [upd_ne (ne_of (kqD _ _ f2 (by simp)) s6 (fun z => nomatch z))]; exact kqD _ _ f2 (by simp)
    rintro σ' H6 ⟨D2, rw2, rfl, k6, hD2f, s6, d6, pr6, so6, g1, g2⟩
    clear a5 k5 hD5 f1 f2
    have m6 := k6 _ _ a0.hm (by simpa using ne_of a0.hm a0.hs (fun z => nomatch z))
    refine ⟨fun σ H7 => ∃ q : Addr, σ = [some (.ref s), some (tv n), some (otv b), some (otv a), some (.ref p1), some (.ref p2), some (.ref D), none, none, none] ∧ Kp [s] H H7 ∧ H q = none ∧ H7 s = some (ShO CF dx c D2 q ld lu lw) ∧ H7 D2 = some (.dK (dV tv rw2)) ∧ H7 q = some (.tup [.int (sumW (prM bk pl) (putR rows n a)), .int (sumW (bhM bk pl) (putR rows n a))]) ∧ H7 p2 = some (.tup [.int (ow (prM bk pl) a), .int (ow (bhM bk pl) a)]), ?_, ?_⟩
    · refine ⟨_, rfl, _, _, _, _, _, rfl, s6, T.cl_Shelf, T.no_Shelf_own_sums, rfl, sm, _, 0, _, rfl, rfl, SqT.of m6, rfl, _, rfl, p1, _, 0, _, rfl, rfl, SqT.of g1, rfl, _, _, rfl, rfl, _, rfl, p2, _, 0, _, rfl, rfl, SqT.of g2, rfl, _, _, rfl, rfl, ?_⟩
      refine ⟨_, rfl, _, _, _, _, _, rfl, s6, T.cl_Shelf, T.no_Shelf_own_sums, rfl, sm, _, 1, _, rfl, rfl, SqT.of m6, rfl, _, rfl, p1, _, 1, _, rfl, rfl, SqT.of g1, rfl, _, _, rfl, rfl, _, rfl, p2, _, 1, _, rfl, rfl, SqT.of g2, rfl, _, _, rfl, rfl, by show 2 ≤ sizeLine; omega, fun q hq => ?_⟩
      have nsq := ne_of_none s6 hq
      have hqf : H q = none := k6.free hq (by simpa using nsq.symm)
      refine ⟨_, rfl, s, CF, dx, _, rfl, by rw [upd_ne nsq]; exact s6, T.cl_Shelf, T.no_Shelf_own_sums, by simp, q, rfl, (k6.up (.inl hqf)).up (.inr (by simp)), hqf, upd_same, ?_, ?_, ?_⟩
      · rw [upd_ne (ne_of d6 s6 (fun z => nomatch z)), upd_ne (ne_of_none d6 hq)]; exact d6
      · rw [upd_ne nsq.symm, upd_same, sumW_put _ nd, sumW_put _ nd, hb]
      · rw [upd_ne (ne_of g2 s6 (fun z => nomatch z)), upd_ne (ne_of_none g2 hq)]; exact g2
    rintro σ' H7 ⟨q, rfl, k7, hqf, s7, d7, q7, g2'⟩
    clear g1 g2 m6 d6 s6 k6
    have w7 := k7 _ _ a0.hw (by simpa using ne_of a0.hw a0.hs (fun z => nomatch z))
    refine ⟨_, rfl, _, _, _, _, _, rfl, s7, T.cl_Shelf, T.no_Shelf_own_watchers, rfl, lw, _, rfl, .inl (SqL.of w7), fun l hl => ⟨l, rfl, ⟨_, SqL.of upd_same⟩, ?_⟩⟩
    have k78 : Kp [] H7 (upd H7 l (.lst ((wfs wo).map .ref))) := (kp_refl H7).up (.inl hl)
    have hl8 : upd H7 l (.lst ((wfs wo).map .ref)) l = some (.lst ((wfs wo).map .ref)) := upd_same
    have hlf : H l = none := k7.free hl (by simpa using (ne_of_none s7 hl).symm)
    generalize upd H7 l (.lst ((wfs wo).map .ref)) = H8 at k78 hl8
    have k8 : Kp [s] H H8 := k7.trans (k78.any [s])
    have s8 := k78 _ _ s7 (by simp)
    have d8 := k78 _ _ d7 (by simp)
    have q8 := k78 _ _ q7 (by simp)
    have g8 := k78 _ _ g2' (by simp)
    have wm : ∀ x ∈ wms wo, ∃ kvs, H x = some (.dK kvs) := fun x hx => by
      cases wo with
      | none => cases hx
      | some W => rw [List.mem_singleton.mp hx]; exact ⟨_, (wh W rfl).hm⟩
    have nf : ∀ {x : Addr}, H x = none → x ∉ ms := fun {x} e hx => by
      obtain ⟨o, ho⟩ := mi x hx
      rw [e] at ho
      cases ho
    have fin : ∀ H', Kp (wms wo) H8 H' → WoH H' wo (putA am n (a.map (bhM bk pl))) → Q .non H' := fun H' kk wh' => by
      have kH : Kp (s :: wms wo) H H' := fun x o e hx => kk x o (k8 x o e (by simpa using fun z => hx (by rw [z]; exact List.mem_cons_self ..))) (fun z => hx (List.mem_cons_of_mem _ z))
      have kG : Kp [s] (hid ms H) (hid ms H') := hid_kp kH fun x hx => by
        rcases List.mem_cons.mp hx with z | z
        · exact .inl (by rw [z]; simp)
        · exact .inr (.inl (wms_in ml x z))
      have vG : VolAt CF (hid ms H) [s] := fun x hx => by
        rw [List.mem_singleton.mp hx]
        exact ⟨_, sh.hs, .inr ⟨_, _, rfl⟩⟩
      have sw : ∀ {x : Addr} {o : HO}, H8 x = some o → x ∉ ms → H' x = some o := fun {x o} e hx => kk x o e (fun z => hx (wms_in ml x z))
      have nls : ∀ {x : Addr} {xs : List V}, hid ms H x = some (.lst xs) → x ∉ [s] := fun {x xs} e => by simpa using ne_of e sh.hs (fun z => nomatch z)
      refine k H' ⟨dx, c, D2, q, ld, lu, lw, rw2, ds, us, rfl, ?_⟩ wh' kH
      refine ⟨?_, sh.hc.kp kG vG T.n_BF T.n_CF, ?_, pr6, so6, hok, ?_, kG _ _ sh.hd (nls sh.hd), kG _ _ sh.hu (nls sh.hu), kG _ _ sh.hw (nls sh.hw), sh.ed.kp kG vG, sh.eu.kp kG vG, sh.n1, sh.n2, sh.n3, sh.dl, sh.wl⟩
      · rw [hid_out nsm]; exact sw s8 nsm
      · rw [hid_out (nf hD2f)]; exact sw d8 (nf hD2f)
      · rw [hid_out (nf hqf)]; exact sw q8 (nf hqf)
    cases wo with
    | none =>
      refine for_it (walk_list (K := K) (a := l) (xs := [])) (fun i σ H' => H' = H8) rfl (fun i σ H' _ e => by rw [e]; exact SqL.of hl8) (fun i x σ H1 H2 hi _ _ => by simp at hi) (fun σ H' e => ?_)
      rw [e]
      exact fin H8 (kp_refl H8) (fun W e => by cases e)
    | some W =>
      have hw := wh W rfl
      have hwm8 : WtH H8 W am := ⟨k8 _ _ hw.hf (by simpa using ne_of hw.hf a0.hs (fun z => nomatch z)), k8 _ _ hw.hc (by simpa using ne_of hw.hc a0.hs (fun z => nomatch z)), k8 _ _ hw.hm (by simpa using ne_of hw.hm a0.hs (fun z => nomatch z))⟩
      refine for_it (walk_list (K := K) (a := l) (xs := [.ref W.f])) (fun i σ H' => (i = 0 ∧ H' = H8 ∧ σ = [some (.ref s), some (tv n), some (otv b), some (otv a), some (.ref p1), some (.ref p2), some (.ref D), none, none, none]) ∨ (i = 1 ∧ Kp [W.m] H8 H' ∧ WoH H' (some W) (putA am n (a.map (bhM bk pl))))) (.inl ⟨rfl, rfl, rfl⟩) (fun i σ H' _ e => ?_) ?_ (fun σ H' e => ?_)
      · rcases e with ⟨_, rfl, _⟩ | ⟨_, kk, _⟩
        · exact SqL.of hl8
        · exact SqL.of (kk _ _ hl8 (by simpa using ne_of hl8 hwm8.hm (fun z => nomatch z)))
      · rintro i x σ Ha Hb hi he ⟨rfl, hx⟩
        have hi0 : i = 0 := by simp at hi; omega
        subst hi0
        obtain rfl : x = .ref W.f := (Option.some.inj hx).symm
        rcases he with ⟨_, rfl, rfl⟩ | ⟨z, _⟩
        · refine ⟨W, rfl, hwm8.hf, wk W rfl, ?_⟩
          have go : ∃ (n' : Tx0) (ov : Option Int) (am' : Am), [tv n, (ova (a.map (bhM bk pl)))] = [tv n', ova ov] ∧ WtH Hb W am' ∧ am'.length ≤ 1000 ∧ ∀ H2, Kp [W.m] Hb H2 → H2 W.m = some (.dK (dV ova (putA am' n' ov))) → ((1 : Nat) = 0 ∧ H2 = Hb ∧ [some (.ref s), some (tv n), some (otv b), some (otv a), some (.ref p1), some (.ref p2), some (.ref D), some (.ref W.f), none, none] = [some (.ref s), some (tv n), some (otv b), some (otv a), some (.ref p1), some (.ref p2), some (.ref D), (none : Option V), none, none]) ∨ ((1 : Nat) = 1 ∧ Kp [W.m] Hb H2 ∧ WoH H2 (some W) (putA am n (a.map (bhM bk pl)))) :=
            ⟨n, a.map (bhM bk pl), am, rfl, hwm8, by omega, fun H2 kk hm2 => .inr ⟨rfl, kk, fun W' e => by
              cases e
              exact ⟨kk _ _ hwm8.hf (by simpa using ne_of hwm8.hf hwm8.hm (fun z => nomatch z)), kk _ _ hwm8.hc (by simpa using ne_of hwm8.hc hwm8.hm (fun z => nomatch z)), hm2⟩⟩⟩
          cases a with
          | none => exact ⟨_, rfl, _, rfl, rfl, _, rfl, go⟩
          | some t => exact ⟨_, rfl, _, rfl, rfl, _, rfl, _, rfl, p2, _, 1, _, rfl, rfl, SqT.of g8, rfl, go⟩
        · cases z
      · rcases e with ⟨z, _⟩ | ⟨_, kk, wh'⟩
        · cases z
        · exact fin H' kk wh'
end
end K75
-- part W10
set_option Elab.async false
set_option linter.all false
set_option maxRecDepth 100000
set_option maxHeartbeats 4000000
namespace L2
open PySem PySem.Spec PyProof.Rows HT
section
variable {prog : Program} {w : World} {A : Around} {E : Value → Shared → Prop} {s : Shared}
theorem sliceApplied_rev1 {sl : Addr} {vl vu vs : Value} {Q : Int × Int × Nat → Shared → Prop} (hs : s.heap.IsSliceOf sl vl vu vs) (pl : IsPart vl none) (pu : IsPart vu none) (ps : IsPart vs (some (-1)))
    (h : Q (0, -1, 1) s) : wpAny (model prog w) A (Builtin.Slice.sliceApplied (.ref sl) (pure ((1 : Nat) : Int))) Q E s := by
  obtain ⟨os, hos, hcs, hds⟩ := id hs
  unfold Builtin.Slice.sliceApplied Builtin.Slice.sliceFields
  refine wpAny_bind (wpAny_bind (wpAny_field hos hds (x := vl) rfl (wpAny_bind (wpAny_field hos hds (x := vu) rfl (wpAny_bind (wpAny_field hos hds (x := vs) rfl (wpAny_pure ?_)))))))
  refine wpAny_bind (slicePart_ ps ?_)
  show wpAny _ _ (if ((-1 : Int) == 0) = true then _ else _) _ _ s
  rw [if_neg (by decide)]
  refine wpAny_bind (slicePart_ pl (wpAny_bind (slicePart_ pu (wpAny_bind (wpAny_pure ?_)))))
  exact wpAny_pure h
theorem getItem_tuple_rev1 {t sl : Addr} {x vl vu vs : Value} {Q : Value → Shared → Prop} (ht : IsTup s.heap t [x].toArray) (hs : s.heap.IsSliceOf sl vl vu vs) (pl : IsPart vl none) (pu : IsPart vu none) (ps : IsPart vs (some (-1)))
    (h : Q (.ref s.heap.objs.size) { s with heap := s.heap.push { cls := .type "tuple", data := .seq [x].toArray } }) : wpAny (model prog w) A (getItem (.ref t) (.ref sl)) Q E s := by
  have htake : sizeOk (.seq [x].toArray) := by
    show 1 ≤ sizeLine
    rw [sizeLine_eq]
    decide
  obtain ⟨os, hos, hcs, hds⟩ := id hs
  have hTs : s.TypeIs (.ref sl) "slice" := ⟨os, hos, hcs⟩
  unfold getItem
  try with_reducible refine wpAny_holding ?_
  first | refine wpAny_bind (wpAny_pure ?_) | skip
  refine wpAny_bind (wpAny_sequenceKey ht.typeIs (by decide) ?_)
  refine wpAny_bind (wpAny_callSpecial?_slot (name := Str.ofString "__getitem__") ht.typeIs PyProof.Rows.slot_tuple_getitem
    (wpAny_call_entry PyProof.Rows.slot_tuple_getitem ht.typeIs entry_tuple_getitem ?_ (args_tuple_getitem _ _)))
  show wpAny _ _ (Builtin.Tuple.tupleItemsOf (.ref t) >>= _) _ _ s
  refine wpAny_bind (tupleItemsOf_ ht ?_)
  refine wpAny_bind (wpAny_typeOf hTs ?_)
  rw [if_pos (by decide)]
  refine wpAny_bind (sliceApplied_rev1 hs pl pu ps ?_)
  show wpAny _ _ (if (((0 : Int) == 0) && ((-1 : Int) == 1) && ((1 : Nat) == 1)) = true then _ else _) _ _ s
  rw [if_neg (by decide)]
  have e : ((List.range 1).filterMap fun (m : Nat) => [x].toArray[((0 : Int) + (m : Int) * (-1)).toNat]?).toArray = [x].toArray := by rfl
  rw [e]
  first
    | exact wpAny_bind (m := Builtin.Tuple.tupleExact _) (wpAny_newObj_type (wpAny_pure ⟨_, rfl, wpAny_pure h⟩) htake)
    | exact wpAny_bind (m := Builtin.Tuple.tupleExact _) (wpAny_newObj_type (wpAny_bind (wpAny_pure (wpAny_pure ⟨_, rfl, wpAny_pure h⟩))) htake)
    | exact wpAny_bind (wpAny_bind (m := Builtin.Tuple.tupleExact _) (wpAny_newObj_type (wpAny_pure (wpAny_pure ⟨_, rfl, wpAny_pure h⟩)) htake))
    | exact wpAny_bind (wpAny_bind (m := Builtin.Tuple.tupleExact _) (wpAny_newObj_type (wpAny_pure ⟨_, rfl, wpAny_pure h⟩) htake))
end
def tRev1 (K : PySem.W.Frag) (te : TE) : TE := fun σ H Q => te σ H fun x H1 => ∃ a y, x = .ref a ∧ SqT K H1 a [y] ∧ ∀ p, H1 p = none → Q (.ref p) (upd H1 p (.tup [y]))
theorem pe_rev1 {X : Cx} {e : Expr} {te : TE} {k : Nat} {p1 p2 p3 pos : Pos} (he : PE X e te) : PE X (.Subscript e (.Slice none none (some (.UnaryOp .USub (.Constant (.int 1) k p1) p2)) p3) pos) (tRev1 X.K te) := by
  refine ⟨fun pins s σ H Q I h => ?_⟩
  refine Subscript_ (thn (he.run pins s σ H _ I h) fun v s1 ⟨x, H1, I1, r1, q1⟩ => ?_)
  obtain ⟨a, y, ex, hx, q⟩ := q1
  subst ex
  cases r1
  have hst : PO X (some (.UnaryOp .USub (.Constant (.int 1) k p1) p2)) (tPart (tUn (rU fun i => .int (-i)) (tC (.int 1)))) := po_some (pe_un un_neg pe_int)
  refine wpAny_Slice (thn (po_none.run pins s1 σ H1 (fun o H2 => o = none ∧ H2 = H1) I1 ⟨rfl, rfl⟩) fun vl s2 ⟨l, H2, I2, pl, el, e2⟩ => ?_)
  subst el e2
  refine thn (po_none.run pins s2 σ H2 (fun o H3 => o = none ∧ H3 = H2) I2 ⟨rfl, rfl⟩) fun vu s3 ⟨u, H3, I3, pu, eu, e3⟩ => ?_
  subst eu e3
  refine thn (hst.run pins s3 σ H3 (fun o H4 => o = some (-1) ∧ H4 = H3) I3 ⟨1, rfl, -1, rfl, rfl, rfl⟩) fun vs s4 ⟨o, H4, I4, ps, eo, e4⟩ => ?_
  subst eo e4
  have I5 : Inv X pins σ H4 { s4 with heap := s4.heap.push { cls := .type "slice", data := .fields #[vl, vu, vs] } } := I4.kept (t' := s4.toks) fun b ob q => Heap.get?_push_of_some _ q
  obtain ⟨its, r, ht, hz⟩ := I5.tuple hx
  obtain ⟨u, rfl, ru⟩ := vals1 r
  show wpAny (model X.prog X.w) X.A (subscriptTail e (.Slice none none (some (.UnaryOp .USub (.Constant (.int 1) k p1) p2)) p3) (.ref a) (.ref s4.heap.objs.size)) (EP X pins σ Q) X.xe { s4 with heap := s4.heap.push { cls := .type "slice", data := .fields #[vl, vu, vs] } }
  refine tail_any (ops := [.ref a, .ref s4.heap.objs.size]) ht.typeIs (PyProof.Rows.slot_tuple_getitem.lookup) ?_ (by with_unfolding_all rfl)
  refine getItem_tuple_rev1 ht (Heap.IsSliceOf.new _ vl vu vs) pl pu ps ?_
  refine ⟨.ref _, _, I5.laid (t' := s4.toks) (o := .tup [y]) (fun b ob q => Heap.get?_push_of_some _ q) (Nat.le_refl _) ?_, rfl, q _ (I5.hok.fresh (Nat.le_refl _))⟩
  exact ⟨hz, [u], .cons ru .nil, IsTup.new _ _⟩
end L2
-- part W11
set_option Elab.async false
set_option linter.all false
set_option maxRecDepth 100000
set_option maxHeartbeats 4000000
namespace K75
open PySem PySem.Spec PyProof.Rows L2
theorem Kp.sub {D E : List Addr} {H H' : Hp} (k : Kp D H H') (h : ∀ x ∈ D, x ∈ E) : Kp E H H' := fun b o e n => k b o e fun z => n (h b z)
theorem paired_nil {α γ : Type} {F : α → γ → Prop} : Paired F ([] : List α) ([] : List γ) := .nil
section
variable {P : Program} {w : World} {K : PySem.W.Frag} {mg : Str → Option Value} {base : Heap} {CB CC CF : Addr}
/-- after a change -/
def ShOut (CB CC CF : Addr) (H : Hp) (s : Addr) (bk : Bk) (pl : Pl) (rows : Tb) (dn ud : List Chg) (wo : Option Wt) (am : Am) (ms fp : List Addr) (H' : Hp) : Prop :=
  ∃ fp', ShelfH CB CC CF (hid ms H') s bk pl rows dn ud (wfs wo) fp' ∧ (∀ x ∈ fp', x ∈ fp ∨ H x = none) ∧ WoH H' wo am ∧ Kp (fp ++ wms wo) H H'
def sp_change (P : Program) (w : World) (K : PySem.W.Frag) (mg : Str → Option Value) (base : Heap) (CB CC CF : Addr) : Sp := fun vs H Q _ => ∃ (s : Addr) (bk : Bk) (pl : Pl) (rows : Tb) (dn ud : List Chg) (wo : Option Wt) (am : Am) (ms fp : List Addr) (n : Tx0) (a : Option Tx0),
  vs = [.ref s, tv n, otv a] ∧ ShIn P w K mg base CB CC CF H s bk pl rows dn ud wo am ms fp ∧ RowsOk bk (putR rows n a) ∧ dn.length ≤ 900 ∧
  ∀ H', ShOut CB CC CF H s bk pl (putR rows n a) (dn ++ [⟨n, getA rows n, a⟩]) [] wo (putA am n (a.map (bhM bk pl))) ms fp H' → Q .non H'
theorem c_Shelf_change (T : Ty K mg CB CC CF) : C8.Met P w K mg base 8 CF "change" (sp_change P w K mg base CB CC CF) [] := by
  refine met_of T.m_Shelf_change T.cl_Shelf sc_p_Shelf_change (fun _ _ _ _ _ _ us hl => match us, hl with | [_, _, _], _ => rfl) (fun vs H Q E h => ?_) (fun cdv A outer f s0 H vs Q E hr h => ?_)
  · obtain ⟨s, bk, pl, rows, dn, ud, wo, am, ms, fp, n, a, rfl, _⟩ := h
    rfl
  · obtain ⟨s, bk, pl, rows, dn, ud, wo, am, ms, fp, n, a, rfl, ⟨⟨dx, c, tx, sm, ld, lu, lw, rw, ds, us, rfl, sh⟩, wh, wk, ml, mi, al⟩, hok, hdn, k⟩ := h
    have h3 : sizeLine = 16777216 := sizeLine_eq
    refine ⟨_, (pss_cons (ps_set (i := 3) sc_p_Shelf_change.nd rfl (Or.inl rfl) (pe_dget1 (hu1 hr) (pe_fldK (K := K) rfl (pv 0)) (pv 1) ⟨by rfl, by rfl, by rfl, by rfl⟩))
  (pss_cons (ps_fld (pv 0) (pe_lst pa_nil) rfl)
  (pss_cons (ps_if (pt_cmpR op_isN (pe_fldK (K := K) rfl (pv 0)) pe_non (nomark _))
    (pss_one (ps_expr (pe_bm PySem.F.plainAttrs_list PySem.F.slot_list_append PySem.F.type_list_append mt_append (pe_fldK (K := K) rfl (pv 0)) (pa_cons (pe_tup (pa_cons (pe_tup (pa_cons (pv 1) (pa_cons (pv 3) (pa_cons (pv 2) pa_nil)))) pa_nil)) pa_nil))))
    (pss_cons (ps_fld (pv 0) (pe_tup (StX.pa_star (pe_fldK (K := K) rfl (pv 0)) (pa_cons (pe_tup (pa_cons (pv 1) (pa_cons (pv 3) (pa_cons (pv 2) pa_nil)))) pa_nil))) rfl)
    (pss_one (ps_fld (pv 0) (pe_fldK (K := K) rfl (pv 0)) rfl))))
  (pss_one (ps_expr (C8.pe_mt (c_Shelf_move T) hr (by decide) (pv 0) (pa_cons (pv 1) (pa_cons (pv 3) (pa_cons (pv 2) pa_nil))))))))), ?_⟩
    have a0 := sh.kp0 (hid_sub ms H)
    have nsm : s ∉ ms := (hid_some sh.hs).1
    have nf : ∀ {x : Addr}, H x = none → x ∉ ms := fun {x} e hx => by
      obtain ⟨o, ho⟩ := mi x hx
      rw [e] at ho
      cases ho
    have lds := Paired.length sh.ed
    refine ⟨_, rfl, _, _, _, _, _, rfl, a0.hs, T.cl_Shelf, T.no_Shelf_own_texts, rfl, tx, rfl, .inl ⟨_, .inl a0.ht⟩, _, rfl, _, a0.dget n, ?_⟩
    have eb : ((getA rows n).map tv).getD .non = otv (getA rows n) := by cases getA rows n <;> rfl
    rw [eb]
    refine ⟨by show 0 ≤ sizeLine; omega, fun p hp => ?_⟩
    have nsp := ne_of_none a0.hs hp
    refine ⟨_, rfl, s, CF, dx, _, rfl, by rw [upd_ne nsp]; exact a0.hs, T.cl_Shelf, T.no_Shelf_own_undone, by simp, ?_⟩
    have k1 : Kp [s] H (upd (upd H p (.lst [])) s (ShO CF dx c tx sm ld p lw)) := ((kp_refl H).up (.inl hp)).up (.inr (by simp))
    have s1 : upd (upd H p (.lst [])) s (ShO CF dx c tx sm ld p lw) s = some (ShO CF dx c tx sm ld p lw) := upd_same
    have p1 : upd (upd H p (.lst [])) s (ShO CF dx c tx sm ld p lw) p = some (.lst []) := by rw [upd_ne nsp.symm, upd_same]
    show (fun H1 => _) (upd (upd H p (.lst [])) s (ShO CF dx c tx sm ld p lw))
    generalize upd (upd H p (.lst [])) s (ShO CF dx c tx sm ld p lw) = H1 at k1 s1 p1
    refine ⟨_, rfl, _, _, _, _, _, rfl, s1, T.cl_Shelf, T.no_Shelf_own_block, rfl, rfl, _, rfl, ?_⟩
    have nlds : ld ≠ s := ne_of a0.hd a0.hs (fun z => nomatch z)
    have d1 := k1 _ _ a0.hd (by simpa using nlds)
    refine ⟨_, rfl, _, _, _, _, _, rfl, s1, T.cl_Shelf, T.no_Shelf_own_done, rfl, .inl ⟨rfl, _, SqL.of d1⟩, _, rfl, _, rfl, _, rfl, by show 3 ≤ sizeLine; omega, fun i hi => ⟨by show 1 ≤ sizeLine; omega, fun e he => ?_⟩⟩
    obtain ⟨he1, nei⟩ := none_of_upd he
    have nsi := ne_of_none s1 hi
    have nse := ne_of_none s1 he1
    have hi0 : H i = none := k1.free hi (by simpa using nsi.symm)
    have he0 : H e = none := k1.free he1 (by simpa using nse.symm)
    have ndi := ne_of_none d1 hi
    have nde := ne_of_none d1 he1
    have npi := ne_of_none p1 hi
    have npe := ne_of_none p1 he1
    obtain ⟨H2, eH2⟩ : ∃ H2, H2 = upd (upd (upd H1 i (.tup [tv n, otv (getA rows n), otv a])) e (.tup [.ref i])) ld (.lst (ds.map .ref ++ [.ref e])) := ⟨_, rfl⟩
    have kH2 : Kp [s, ld] H H2 := by
      rw [eH2]
      exact (((k1.sub (E := [s, ld]) (by simp)).up (.inl hi0)).up (.inl he0)).up (.inr (by simp))
    have at2 : ∀ {x : Addr} {o : HO}, H1 x = some o → x ≠ ld → H2 x = some o := fun {x o} hx n1 => by
      rw [eH2, upd_ne n1, upd_ne (ne_of_none hx he1), upd_ne (ne_of_none hx hi)]
      exact hx
    have s2 := at2 s1 nlds.symm
    have ndp : ld ≠ p := ne_of_none a0.hd hp
    have p2 := at2 p1 ndp.symm
    have d2 : H2 ld = some (.lst ((ds ++ [e]).map .ref)) := by rw [eH2, upd_same, List.map_append]; rfl
    have e2 : H2 e = some (.tup [.ref i]) := by rw [eH2, upd_ne nde.symm, upd_same]
    have i2 : H2 i = some (.tup [tv n, otv (getA rows n), otv a]) := by rw [eH2, upd_ne ndi.symm, upd_ne nei.symm, upd_same]
    refine ⟨ld, ds.map .ref, .ref e, rfl, rfl, ?_, by rw [List.length_map]; omega, ?_⟩
    · rw [upd_ne nde, upd_ne ndi]; exact d1
    show (fun Hx => _) (upd (upd (upd H1 i (.tup [tv n, otv (getA rows n), otv a])) e (.tup [.ref i])) ld (.lst (ds.map .ref ++ [.ref e])))
    rw [← eH2]
    clear eH2
    have kG : Kp [s, ld] (hid ms H) (hid ms H2) := hid_kp kH2 fun x hx => .inl hx
    have vG : VolAt CF (hid ms H) [s, ld] := fun x hx => by
      simp only [List.mem_cons, List.not_mem_nil, or_false] at hx
      rcases hx with z | z <;> rw [z]
      · exact ⟨_, sh.hs, .inr ⟨_, _, rfl⟩⟩
      · exact ⟨_, sh.hd, .inl ⟨_, rfl⟩⟩
    have nlw : lw ∉ [s, ld] := by simpa using ⟨ne_of a0.hw a0.hs (fun z => nomatch z), sh.n2.symm⟩
    have nld : ld ∉ ms := (hid_some sh.hd).1
    have shN : ShAt CB CC CF (hid ms H2) s bk pl rows (dn ++ [⟨n, getA rows n, a⟩]) [] (wfs wo) dx c tx sm ld p lw rw (ds ++ [e]) [] :=
      ⟨by rw [hid_out nsm]; exact s2, sh.hc.kp kG vG T.n_BF T.n_CF, kG.vol vG sh.ht nv_dK, sh.pr, sh.so, sh.ok, kG.vol vG sh.hm nv_tup, by rw [hid_out nld]; exact d2, by rw [hid_out (nf hp)]; exact p2, kG _ _ sh.hw nlw,
        paired_snoc (sh.ed.kp kG vG) ⟨i, by rw [hid_out (nf he0)]; exact e2, by rw [hid_out (nf hi0)]; exact i2⟩, .nil, ndp, sh.n2, (ne_of_none a0.hw hp).symm, by rw [List.length_append, List.length_singleton, List.length_nil]; omega, sh.wl⟩
    have vH : VolAt CF H [s, ld] := vol_hid vG
    refine ⟨_, rfl, s, dx, _, rfl, s2, rfl, _, rfl, _, rfl, _, rfl, s, bk, pl, rows, dn ++ [⟨n, getA rows n, a⟩], [], wo, am, ms, [s, ld, p, lw], n, getA rows n, a, rfl, ⟨⟨dx, c, tx, sm, ld, p, lw, rw, ds ++ [e], [], rfl, shN⟩, wh.kp kH2 vH, wk, ml, ?_, al⟩, rfl, hok, fun H' shO whO kO => ?_⟩
    · intro x hx
      obtain ⟨o, ho⟩ := mi x hx
      refine ⟨o, kH2 _ _ ho ?_⟩
      simp only [List.mem_cons, List.not_mem_nil, or_false]
      rintro (z | z)
      · exact nsm (by rw [← z]; exact hx)
      · exact nld (by rw [← z]; exact hx)
    · refine k H' ⟨[s, ld, p, lw], shO, ?_, whO, ?_⟩
      · intro x hx
        simp only [List.mem_cons, List.not_mem_nil, or_false] at hx ⊢
        rcases hx with z | z | z | z
        · exact .inl (.inl z)
        · exact .inl (.inr (.inl z))
        · exact .inr (by rw [z]; exact hp)
        · exact .inl (.inr (.inr (.inr z)))
      · refine (kH2.sub (E := [s, ld, lu, lw] ++ wms wo) ?_).trans (kO.sub ?_)
        · intro x hx
          simp only [List.mem_cons, List.not_mem_nil, or_false, List.cons_append, List.nil_append, List.mem_append] at hx ⊢
          rcases hx with z | z
          · exact .inl z
          · exact .inr (.inl z)
        · intro x hx
          rcases List.mem_cons.mp hx with z | z
          · rw [z]; exact List.mem_cons_self ..
          · exact List.mem_append_right _ z
end
end K75
-- part W12
set_option Elab.async false
set_option linter.all false
set_option maxRecDepth 100000
set_option maxHeartbeats 4000000
namespace K75
open PySem PySem.Spec PyProof.Rows L2
section
variable {P : Program} {w : World} {K : PySem.W.Frag} {mg : Str → Option Value} {base : Heap} {CB CC CF : Addr}
theorem ShIn.kp0 {H H' : Hp} {s : Addr} {bk : Bk} {pl : Pl} {rows : Tb} {dn ud : List Chg} {wo : Option Wt} {am : Am} {ms fp : List Addr} (h : ShIn P w K mg base CB CC CF H s bk pl rows dn ud wo am ms fp) (k : Kp [] H H') : ShIn P w K mg base CB CC CF H' s bk pl rows dn ud wo am ms fp :=
  ⟨h.sh.kp0 (hid_kp k (fun x hx => by cases hx)), h.wh.kp k (CF := CF) vol_nil, h.wk, h.ml, fun x hx => by
    obtain ⟨o, ho⟩ := h.mi x hx
    exact ⟨o, k _ _ ho (by simp)⟩, h.al⟩
theorem ShOut.pre {H H1 H' : Hp} {s : Addr} {bk : Bk} {pl : Pl} {rows : Tb} {dn ud : List Chg} {wo : Option Wt} {am : Am} {ms fp : List Addr} (k : Kp [] H H1) (o : ShOut CB CC CF H1 s bk pl rows dn ud wo am ms fp H') : ShOut CB CC CF H s bk pl rows dn ud wo am ms fp H' := by
  obtain ⟨fp', a, b, c, d⟩ := o
  exact ⟨fp', a, fun x hx => (b x hx).elim .inl fun z => .inr (k.free z (by simp)), c, (k.any _).trans d⟩
def sp_put (P : Program) (w : World) (K : PySem.W.Frag) (mg : Str → Option Value) (base : Heap) (CB CC CF : Addr) : Sp := fun vs H Q _ => ∃ (s : Addr) (bk : Bk) (pl : Pl) (rows : Tb) (dn ud : List Chg) (wo : Option Wt) (am : Am) (ms fp : List Addr) (n t : Tx0),
  vs = [.ref s, tv n, tv t] ∧ ShIn P w K mg base CB CC CF H s bk pl rows dn ud wo am ms fp ∧ Nm n ∧ Ov bk t ∧ t.length ≤ 8000 ∧ RowsOk bk (putR rows n (some t)) ∧ dn.length ≤ 900 ∧
  ∀ H', ShOut CB CC CF H s bk pl (putR rows n (some t)) (dn ++ [⟨n, getA rows n, some t⟩]) [] wo (putA am n (some (bhM bk pl t))) ms fp H' → Q .non H'
theorem c_Shelf_put (T : Ty K mg CB CC CF) : C8.Met P w K mg base 9 CF "put" (sp_put P w K mg base CB CC CF) [] := by
  refine met_of T.m_Shelf_put T.cl_Shelf sc_p_Shelf_put (fun _ _ _ _ _ _ us hl => match us, hl with | [_, _, _], _ => rfl) (fun vs H Q E h => ?_) (fun cdv A outer f s0 H vs Q E hr h => ?_)
  · obtain ⟨s, bk, pl, rows, dn, ud, wo, am, ms, fp, n, t, rfl, _⟩ := h
    rfl
  · obtain ⟨s, bk, pl, rows, dn, ud, wo, am, ms, fp, n, t, rfl, hin, hn, ho, htl, hok, hdn, k⟩ := h
    obtain ⟨dx, c, tx, sm, ld, lu, lw, rw, ds, us, rfl, sh⟩ := hin.sh
    have h3 : sizeLine = 16777216 := sizeLine_eq
    refine ⟨_, (pss_cons (ps_if (pt_not (pt_val (C8.pe_c (c_p_is_name T) hr (by decide) (by rfl) (pa_cons (pv 1) pa_nil))))
    (pss_one ps_never)
    pss_nil)
  (pss_cons (ps_expr (C8.pe_c (c_p_require_text T) hr (by decide) (by rfl) (pa_cons (pe_fldK (K := K) rfl (pe_fldK (K := K) rfl (pv 0))) (pa_cons (pv 2) pa_nil))))
  (C8.pss_cut (ps_if (PW.pt (pw_and (pt_cmp (pc_dnotin (hu1 hr) (pv 1) (pe_fldK (K := K) rfl (pv 0)))) (pw_and1 (pt_cmpR op_eq (pe_callB call_lenD (by rfl) T.n_len (by decide +kernel) (pa_cons (pe_fldK (K := K) rfl (pv 0)) pa_nil)) (C8.pe_gc (v := .int 50) (by rfl) (gi T.g_MAX_TEXTS)) (nomark _)))))
    (pss_one ps_never)
    pss_nil)
  (pss_cons (ps_expr (C8.pe_mt (c_Shelf_require_near T) hr (by decide) (pv 0) (pa_cons (pv 2) pa_nil)))
  (pss_one (ps_expr (C8.pe_mt (c_Shelf_change T) hr (by decide) (pv 0) (pa_cons (pv 1) (pa_cons (pv 2) pa_nil))))))))), ?_⟩
    have a0 := sh.kp0 (hid_sub ms H)
    obtain ⟨dxc, ab, oo, tb, en, sz, rw0, la, ns, ca⟩ := a0.hc
    refine ⟨_, rfl, n, rfl, hn, fun H1 hk1 => ⟨_, rfl, ?_⟩⟩
    have a1 := a0.kp0 hk1
    have ca1 := ca.kp0 hk1
    refine ⟨_, rfl, _, _, _, _, _, rfl, a1.hs, T.cl_Shelf, T.no_Shelf_own_cutter, rfl, _, _, _, _, _, rfl, ca1.ha, T.cl_Cutter, T.no_Cutter_own_book, rfl, _, rfl, ab, bk, t, rfl, ca1.hb, ho, htl, fun H2 hk2 => ?_⟩
    have a2 := a1.kp0 hk2
    have k2 := hk1.trans hk2
    refine ⟨fun σ H' => σ = [some (.ref s), some (tv n), some (tv t)] ∧ H2 = H', ?_, ?_⟩
    · refine ⟨_, rfl, _, rfl, _, _, _, _, _, rfl, a2.hs, T.cl_Shelf, T.no_Shelf_own_texts, rfl, _, _, rfl, a2.dget n, _, rfl, ?_⟩
      cases e : getA rows n with
      | some u => exact ⟨rfl, rfl⟩
      | none =>
        refine iteT' rfl ?_
        have hlen : rows.length + 1 ≤ 50 := by
          have h1 := hok.le
          rw [put_new (getA_none.mp e), List.length_append, List.length_singleton] at h1
          exact h1
        refine ⟨_, rfl, _, _, _, _, _, rfl, a2.hs, T.cl_Shelf, T.no_Shelf_own_texts, rfl, tx, dV tv rw, rfl, a2.ht, rfl, _, rfl, ?_⟩
        refine iteF' (decide_eq_false fun z => ?_) ⟨rfl, rfl⟩
        have z2 := V.int.inj z
        rw [dV_length] at z2
        have := sh.pr.length_eq
        omega
    rintro σ' H' ⟨rfl, rfl⟩
    refine ⟨_, rfl, s, dx, _, rfl, a2.hs, rfl, _, rfl, s, dx, _, _, rfl, a2.hs, ?_⟩
    exact ⟨_, rfl, s, dx, _, rfl, a2.hs, rfl, _, rfl, _, rfl, s, bk, pl, rows, dn, ud, wo, am, ms, _, n, some t, rfl, hin.kp0 k2, hok, hdn, fun H' o => k H' (o.pre k2)⟩
def sp_drop (P : Program) (w : World) (K : PySem.W.Frag) (mg : Str → Option Value) (base : Heap) (CB CC CF : Addr) : Sp := fun vs H Q _ => ∃ (s : Addr) (bk : Bk) (pl : Pl) (rows : Tb) (dn ud : List Chg) (wo : Option Wt) (am : Am) (ms fp : List Addr) (n : Tx0),
  vs = [.ref s, tv n] ∧ ShIn P w K mg base CB CC CF H s bk pl rows dn ud wo am ms fp ∧ n ∈ rows.map (·.1) ∧ dn.length ≤ 900 ∧
  ∀ H', ShOut CB CC CF H s bk pl (putR rows n none) (dn ++ [⟨n, getA rows n, none⟩]) [] wo (putA am n none) ms fp H' → Q .non H'
theorem RowsOk.off {bk : Bk} {m : Tb} (h : RowsOk bk m) (n : Tx0) : RowsOk bk (putR m n none) :=
  ⟨nd_off h.nd, Nat.le_trans (len_off m n) h.le, fun p hp => h.nm p (off_mem.mp hp).1, fun p hp => h.tx p (off_mem.mp hp).1⟩
theorem c_Shelf_drop (T : Ty K mg CB CC CF) : C8.Met P w K mg base 9 CF "drop" (sp_drop P w K mg base CB CC CF) [] := by
  refine met_of T.m_Shelf_drop T.cl_Shelf sc_p_Shelf_drop (fun _ _ _ _ _ _ us hl => match us, hl with | [_, _], _ => rfl) (fun vs H Q E h => ?_) (fun cdv A outer f s0 H vs Q E hr h => ?_)
  · obtain ⟨s, bk, pl, rows, dn, ud, wo, am, ms, fp, n, rfl, _⟩ := h
    rfl
  · obtain ⟨s, bk, pl, rows, dn, ud, wo, am, ms, fp, n, rfl, hin, hn, hdn, k⟩ := h
    have sf := hin.sh
    obtain ⟨dx, c, tx, sm, ld, lu, lw, rw, ds, us, rfl, sh⟩ := hin.sh
    refine ⟨_, (pss_cons (ps_expr (C8.pe_mt (c_Shelf_require_known T) hr (by decide) (pv 0) (pa_cons (pv 1) pa_nil)))
  (pss_one (ps_expr (C8.pe_mt (c_Shelf_change T) hr (by decide) (pv 0) (pa_cons (pv 1) (pa_cons pe_non pa_nil)))))), ?_⟩
    have a0 := sh.kp0 (hid_sub ms H)
    refine ⟨_, rfl, s, dx, _, rfl, a0.hs, rfl, _, rfl, s, bk, pl, rows, dn, ud, _, _, n, rfl, sf.kp0 (hid_sub ms H), hn, fun H1 hk1 => ?_⟩
    have a1 := a0.kp0 hk1
    exact ⟨_, rfl, s, dx, _, rfl, a1.hs, rfl, _, rfl, s, bk, pl, rows, dn, ud, wo, am, ms, _, n, none, rfl, hin.kp0 hk1, sh.ok.off n, hdn, fun H' o => k H' (o.pre hk1)⟩
def sp_edit (P : Program) (w : World) (K : PySem.W.Frag) (mg : Str → Option Value) (base : Heap) (CB CC CF : Addr) : Sp := fun vs H Q _ => ∃ (s : Addr) (bk : Bk) (pl : Pl) (rows : Tb) (dn ud : List Chg) (wo : Option Wt) (am : Am) (ms fp : List Addr) (n t u : Tx0) (a b : Nat),
  vs = [.ref s, tv n, .int a, .int b, tv u] ∧ ShIn P w K mg base CB CC CF H s bk pl rows dn ud wo am ms fp ∧ getA rows n = some t ∧ Ov bk u ∧ a ≤ b ∧ b ≤ t.length ∧ t.length + u.length ≤ 8000 ∧ RowsOk bk (putR rows n (some (t.take a ++ u ++ t.drop b))) ∧ dn.length ≤ 900 ∧
  ∀ (z g m : Addr) (i : Nat) (gone came : List Tx0) (H' : Hp), H z = none → ShOut CB CC CF H s bk pl (putR rows n (some (t.take a ++ u ++ t.drop b))) (dn ++ [⟨n, some t, some (t.take a ++ u ++ t.drop b)⟩]) [] wo (putA am n (some (bhM bk pl (t.take a ++ u ++ t.drop b)))) ms fp H' →
    Came (cutM pl t) (cutM pl (t.take a ++ u ++ t.drop b)) gone came → H' z = some (.tup [.int i, .ref g, .ref m]) → H' g = some (.tup (gone.map tv)) → H' m = some (.tup (came.map tv)) → Q (.ref z) H'
theorem c_Shelf_edit (T : Ty K mg CB CC CF) : C8.Met P w K mg base 9 CF "edit" (sp_edit P w K mg base CB CC CF) [] := by
  refine met_of T.m_Shelf_edit T.cl_Shelf sc_p_Shelf_edit (fun _ _ _ _ _ _ us hl => match us, hl with | [_, _, _, _, _], _ => rfl) (fun vs H Q E h => ?_) (fun cdv A outer f s0 H vs Q E hr h => ?_)
  · obtain ⟨s, bk, pl, rows, dn, ud, wo, am, ms, fp, n, t, u, a, b, rfl, _⟩ := h
    rfl
  · obtain ⟨s, bk, pl, rows, dn, ud, wo, am, ms, fp, n, t, u, a, b, rfl, hin, ht, hu, hab, hb, hl, hok, hdn, k⟩ := h
    have sf := hin.sh
    obtain ⟨dx, c, tx, sm, ld, lu, lw, rw, ds, us, rfl, sh⟩ := hin.sh
    have h3 : sizeLine = 16777216 := sizeLine_eq
    refine ⟨_, (pss_cons (ps_expr (C8.pe_mt (c_Shelf_require_known T) hr (by decide) (pv 0) (pa_cons (pv 1) pa_nil)))
  (pss_cons (ps_set (i := 5) sc_p_Shelf_edit.nd rfl (Or.inl rfl) (pe_dget (hu1 hr) (pe_fldK (K := K) rfl (pv 0)) (pv 1) (fun _ _ => rfl)))
  (pss_cons (ps_set (i := 6) sc_p_Shelf_edit.nd rfl (Or.inl rfl) (C8.pe_c (c_p_recut T) hr (by decide) (by rfl) (pa_cons (pe_fldK (K := K) rfl (pv 0)) (pa_cons (pv 5) (pa_cons (pv 2) (pa_cons (pv 3) (pa_cons (pv 4) pa_nil)))))))
  (pss_cons (ps_set (i := 7) sc_p_Shelf_edit.nd rfl (Or.inl rfl) (pe_op op_add_str (pe_op op_add_str (pe_slice sl_tx (pv 5) po_none (po_some (pv 2))) (pv 4)) (pe_slice sl_tx (pv 5) (po_some (pv 3)) po_none)))
  (pss_cons (ps_expr (C8.pe_mt (c_Shelf_require_near T) hr (by decide) (pv 0) (pa_cons (pv 7) pa_nil)))
  (pss_cons (ps_expr (C8.pe_mt (c_Shelf_change T) hr (by decide) (pv 0) (pa_cons (pv 1) (pa_cons (pv 7) pa_nil))))
  (pss_one (ps_ret (pv 6))))))))), ?_⟩
    have a0 := sh.kp0 (hid_sub ms H)
    have hmem := getA_some ht
    have hot := sh.ok.tx _ hmem
    refine ⟨_, rfl, s, dx, _, rfl, a0.hs, rfl, _, rfl, s, bk, pl, rows, dn, ud, _, _, n, rfl, sf.kp0 (hid_sub ms H), List.mem_map_of_mem hmem, fun H1 hk1 => ?_⟩
    have a1 := a0.kp0 hk1
    have hg := a1.dget n
    rw [ht] at hg
    refine ⟨_, rfl, _, _, _, _, _, rfl, a1.hs, T.cl_Shelf, T.no_Shelf_own_texts, rfl, _, rfl, _, _, rfl, hg, ?_⟩
    refine ⟨_, rfl, _, _, _, _, _, rfl, a1.hs, T.cl_Shelf, T.no_Shelf_own_cutter, rfl, _, rfl, _, rfl, _, rfl, _, rfl, c, bk, pl, t, u, a, b, rfl, a1.hc, hot.1, hu, hab, hb, hl, fun z g m i gone came H2 hz hk2 hcm z2 g2 m2 => ?_⟩
    have a2 := a1.kp0 hk2
    have k2 := hk1.trans hk2
    have hz0 := hk1.free hz (by simp)
    refine ⟨_, rfl, _, rfl, _, rfl, _, rfl, by have := hot.2; omega, .inl ⟨rfl, a, rfl, ?_⟩⟩
    refine ⟨_, rfl, _, _, rfl, rfl, ?_, ?_⟩
    · rw [SX.S_len, SX.S_len, List.length_take]
      omega
    rw [SX.S_cat]
    refine ⟨_, rfl, _, rfl, _, rfl, _, rfl, by have := hot.2; omega, .inr (.inl ⟨rfl, b, rfl, ?_⟩)⟩
    refine ⟨_, _, rfl, rfl, ?_, ?_⟩
    · rw [SX.S_len, SX.S_len, List.length_append, List.length_take, List.length_drop]
      omega
    rw [SX.S_cat]
    refine ⟨_, rfl, s, dx, _, rfl, a2.hs, rfl, _, rfl, s, dx, _, _, rfl, a2.hs, ?_⟩
    refine ⟨_, rfl, s, dx, _, rfl, a2.hs, rfl, _, rfl, _, rfl, s, bk, pl, rows, dn, ud, wo, am, ms, _, n, some (t.take a ++ u ++ t.drop b), rfl, hin.kp0 k2, hok, hdn, fun H' o => ⟨_, rfl, ?_⟩⟩
    have o2 := o.pre k2
    rw [ht] at o2
    obtain ⟨fp', x1, x2, x3, x4⟩ := o
    have vH2 : VolAt CF H2 [s, ld, lu, lw] := (a2).vol
    have st : ∀ {q : Addr} {xs : List V}, H2 q = some (.tup xs) → H' q = some (.tup xs) := fun {q xs} e => x4 q _ e fun hx => by
      rcases List.mem_append.mp hx with y | y
      · obtain ⟨o, e1, e2⟩ := vH2 q y
        rw [e] at e1
        cases e1
        rcases e2 with ⟨_, w⟩ | ⟨_, _, w⟩ <;> cases w
      · cases wo with
        | none => cases y
        | some W =>
          rw [List.mem_singleton.mp y] at e
          have e3 := k2 _ _ (hin.wh W rfl).hm (by simp)
          rw [e] at e3
          cases e3
    exact k z g m i gone came H' hz0 o2 hcm (st z2) (st g2) (st m2)
end
end K75
-- part W13
set_option Elab.async false
set_option linter.all false
set_option maxRecDepth 100000
set_option maxHeartbeats 4000000
namespace K75
open PySem PySem.Spec PyProof.Rows L2
theorem paired_snoc_inv {α γ : Type} {F : α → γ → Prop} : ∀ {ps : List α} {ks : List γ} {c : γ}, Paired F ps (ks ++ [c]) → ∃ ps' p, ps = ps' ++ [p] ∧ Paired F ps' ks ∧ F p c
  | _, [], c, .cons r .nil => ⟨[], _, rfl, .nil, r⟩
  | _, k :: ks, c, .cons r t => by
    obtain ⟨ps', p, rfl, h, q⟩ := paired_snoc_inv t
    exact ⟨_ :: ps', p, rfl, .cons r h, q⟩
section
variable {P : Program} {w : World} {K : PySem.W.Frag} {mg : Str → Option Value} {base : Heap} {CB CC CF : Addr}
def sp_undo (P : Program) (w : World) (K : PySem.W.Frag) (mg : Str → Option Value) (base : Heap) (CB CC CF : Addr) : Sp := fun vs H Q _ => ∃ (s : Addr) (bk : Bk) (pl : Pl) (rows : Tb) (dn ud : List Chg) (ch : Chg) (wo : Option Wt) (am : Am) (ms fp : List Addr),
  vs = [.ref s, .int 1] ∧ ShIn P w K mg base CB CC CF H s bk pl rows (dn ++ [ch]) ud wo am ms fp ∧ getA rows ch.n = ch.a ∧ RowsOk bk (putR rows ch.n ch.b) ∧
  ∀ H', ShOut CB CC CF H s bk pl (putR rows ch.n ch.b) dn (ud ++ [ch]) wo (putA am ch.n (ch.b.map (bhM bk pl))) ms fp H' → Q (.int dn.length) H'
theorem b_undo (T : Ty K mg CB CC CF) : BodyOk P w K mg base "Shelf.undo" s_p_Shelf_undo N_p_Shelf_undo 7 (sp_undo P w K mg base CB CC CF) := by
  intro cdv A outer f s0 H vs Q E hr h
  obtain ⟨s, bk, pl, rows, dn, ud, ch, wo, am, ms, fp, rfl, hin, hga, hok, k⟩ := h
  have sf := hin.sh
  obtain ⟨⟨dx, c, tx, sm, ld, lu, lw, rw, ds, us, rfl, sh⟩, wh, wk, ml, mi, al⟩ := hin
  have h3 : sizeLine = 16777216 := sizeLine_eq
  refine ⟨_, (pss_cons (ps_expr (C8.pe_c (c_p_require_many T) hr (by decide) (by rfl) (pa_cons (pv 1) pa_nil)))
  (pss_cons (ps_expr (C8.pe_mt0 (c_Shelf_require_no_block T) hr (by decide) (pv 0)))
  (pss_cons (ps_if (pt_cmpR op_gt (pv 1) (pe_callB call_len_seq (by rfl) T.n_len (by decide +kernel) (pa_cons (pe_fldK (K := K) rfl (pv 0)) pa_nil)) (nomark _))
    (pss_one ps_never)
    pss_nil)
  (pss_cons (ps_for PassesOwn.never rfl (pi_range1 (by rfl) T.n_range (pa_cons (pv 1) pa_nil)) (pg_name (i := 2) sc_p_Shelf_undo.nd rfl (Or.inl rfl))
    (pss_cons (ps_set (i := 3) sc_p_Shelf_undo.nd rfl (Or.inl rfl) (pe_bm0 PySem.F.plainAttrs_list PySem.F.slot_list_pop PySem.F.type_list_pop mt_pop (pe_fldK (K := K) rfl (pv 0))))
    (pss_cons (ps_expr (pe_bm PySem.F.plainAttrs_list PySem.F.slot_list_append PySem.F.type_list_append mt_append (pe_fldK (K := K) rfl (pv 0)) (pa_cons (pv 3) pa_nil)))
    (pss_one (ps_for PassesOwn.never rfl (pi_tup (pe_rev1 (pv 3))) (pg_tupK (K := K) (n := 3) rfl (by rfl) (pgs_cons (pg_name (i := 4) sc_p_Shelf_undo.nd rfl (Or.inl rfl)) (pgs_cons (pg_name (i := 5) sc_p_Shelf_undo.nd rfl (Or.inl rfl)) (pgs_cons (pg_name (i := 6) sc_p_Shelf_undo.nd rfl (Or.inl rfl)) pgs_nil))))
      (pss_one (ps_expr (C8.pe_mt (c_Shelf_move T) hr (by decide) (pv 0) (pa_cons (pv 4) (pa_cons (pv 6) (pa_cons (pv 5) pa_nil)))))))))))
  (pss_one (ps_ret (pe_callB call_len_seq (by rfl) T.n_len (by decide +kernel) (pa_cons (pe_fldK (K := K) rfl (pv 0)) pa_nil)))))))), ?_⟩
  have a0 := sh.kp0 (hid_sub ms H)
  have hdl := sh.dl
  have hld := Paired.length sh.ed
  have hlu := Paired.length sh.eu
  rw [List.length_append, List.length_singleton] at hdl hld
  refine ⟨_, rfl, rfl, ?_⟩
  refine ⟨_, rfl, s, dx, _, rfl, a0.hs, rfl, s, bk, pl, rows, dn ++ [ch], ud, _, _, rfl, sf.kp0 (hid_sub ms H), ?_⟩
  refine ⟨_, rfl, _, rfl, _, _, _, _, _, rfl, a0.hs, T.cl_Shelf, T.no_Shelf_own_done, rfl, ld, _, rfl, .inl (SqL.of a0.hd), _, _, rfl, rfl, _, rfl, ?_⟩
  refine iteF' (decide_eq_false (by rw [List.length_map]; omega)) ?_
  obtain ⟨ds', e, rfl, ed', he⟩ := paired_snoc_inv sh.ed
  obtain ⟨i, he1, hi1⟩ := he
  refine ⟨_, rfl, (((1 : Nat) : Int)), rfl, by omega, by omega, ?_⟩
  rw [Int.toNat_natCast]
  refine for_range (n := 1) (fun j σ H' => (j = 0 ∧ H' = H ∧ σ = [some (.ref s), some (.int 1), none, none, none, none, none]) ∨ (j = 1 ∧ (∃ x2 x3 x4 x5 x6, σ = [some (.ref s), some (.int 1), x2, x3, x4, x5, x6]) ∧ ShelfH CB CC CF (hid ms H') s bk pl (putR rows ch.n ch.b) dn (ud ++ [ch]) (wfs wo) [s, ld, lu, lw] ∧ WoH H' wo (putA am ch.n (ch.b.map (bhM bk pl))) ∧ Kp ([s, ld, lu, lw] ++ wms wo) H H'))
    (.inl ⟨rfl, rfl, rfl⟩) ?_ ?_
  · rintro j σ H1 hj (⟨rfl, rfl, rfl⟩ | ⟨rfl, _⟩)
    rotate_left
    · omega
    refine ⟨_, rfl, _, _, _, _, _, rfl, a0.hs, T.cl_Shelf, T.no_Shelf_own_done, rfl, .inl ⟨rfl, _, SqL.of a0.hd⟩, ld, (ds' ++ [e]).map .ref, .ref e, rfl, rfl, a0.hd, by simp, ?_⟩
    have edl : ((ds' ++ [e]).map V.ref).dropLast = ds'.map .ref := by rw [List.map_append, List.map_singleton, List.dropLast_concat]
    rw [edl]
    have nlds : ld ≠ s := ne_of a0.hd a0.hs (fun z => nomatch z)
    have nlus : lu ≠ s := ne_of a0.hu a0.hs (fun z => nomatch z)
    refine ⟨_, rfl, _, _, _, _, _, rfl, (upd_ne nlds.symm).trans a0.hs, T.cl_Shelf, T.no_Shelf_own_undone, rfl, .inl ⟨rfl, _, SqL.of ((upd_ne sh.n1.symm).trans a0.hu)⟩, _, rfl, lu, us.map .ref, .ref e, rfl, rfl, (upd_ne sh.n1.symm).trans a0.hu, by rw [List.length_map]; omega, ?_⟩
    obtain ⟨H2, eH2⟩ : ∃ H2, H2 = upd (upd H1 ld (.lst (ds'.map .ref))) lu (.lst (us.map .ref ++ [.ref e])) := ⟨_, rfl⟩
    show (fun Hx => _) (upd (upd H1 ld (.lst (ds'.map .ref))) lu (.lst (us.map .ref ++ [.ref e])))
    rw [← eH2]
    have kH2 : Kp [ld, lu] H1 H2 := by
      rw [eH2]
      exact ((kp_refl H1).up (.inr (by simp))).up (.inr (by simp))
    have d2 : H2 ld = some (.lst (ds'.map .ref)) := by rw [eH2, upd_ne sh.n1, upd_same]
    have u2 : H2 lu = some (.lst ((us ++ [e]).map .ref)) := by rw [eH2, upd_same, List.map_append]; rfl
    clear eH2
    have kG : Kp [ld, lu] (hid ms H1) (hid ms H2) := hid_kp kH2 fun x hx => .inl hx
    have vG : VolAt CF (hid ms H1) [ld, lu] := fun x hx => by
      simp only [List.mem_cons, List.not_mem_nil, or_false] at hx
      rcases hx with z | z <;> rw [z]
      · exact ⟨_, sh.hd, .inl ⟨_, rfl⟩⟩
      · exact ⟨_, sh.hu, .inl ⟨_, rfl⟩⟩
    have vH : VolAt CF H1 [ld, lu] := vol_hid vG
    have nld : ld ∉ ms := (hid_some sh.hd).1
    have nlu : lu ∉ ms := (hid_some sh.hu).1
    have shN : ShAt CB CC CF (hid ms H2) s bk pl rows dn (ud ++ [ch]) (wfs wo) dx c tx sm ld lu lw rw ds' (us ++ [e]) :=
      ⟨kG _ _ sh.hs (by simpa using ⟨nlds.symm, nlus.symm⟩), sh.hc.kp kG vG T.n_BF T.n_CF, kG.vol vG sh.ht nv_dK, sh.pr, sh.so, sh.ok, kG.vol vG sh.hm nv_tup, by rw [hid_out nld]; exact d2, by rw [hid_out nlu]; exact u2, kG _ _ sh.hw (by simpa using ⟨sh.n2.symm, sh.n3.symm⟩),
        EntsH.kp ed' kG vG, paired_snoc (sh.eu.kp kG vG) (EntH.kp ⟨i, he1, hi1⟩ kG vG), sh.n1, sh.n2, sh.n3, by rw [List.length_append, List.length_singleton]; omega, sh.wl⟩
    have e2 : H2 e = some (.tup [.ref i]) := kH2.vol vH (hid_some he1).2 nv_tup
    have i2 : H2 i = some (.tup [tv ch.n, otv ch.b, otv ch.a]) := kH2.vol vH (hid_some hi1).2 nv_tup
    refine ⟨_, rfl, e, .ref i, rfl, SqT.of e2, fun p hp => ⟨p, rfl, ⟨_, SqT.of upd_same⟩, ?_⟩⟩
    have kp3 : Kp [] H2 (upd H2 p (.tup [.ref i])) := (kp_refl H2).up (.inl hp)
    have p3 : upd H2 p (.tup [.ref i]) p = some (.tup [.ref i]) := upd_same
    generalize upd H2 p (.tup [.ref i]) = H3 at kp3 p3
    have shN3 := shN.kp0 (hid_kp kp3 (ms := ms) (D := []) (fun x hx => by cases hx))
    have i3 := kp3 _ _ i2 (by simp)
    have s3 := (hid_some shN3.hs).2
    have kH3 := kH2.trans (kp3.any [ld, lu])
    refine for_it (walk_tup (K := K) (a := p) (xs := [.ref i])) (fun m σ H' => (m = 0 ∧ H' = H3 ∧ σ = [some (.ref s), some (.int 1), some (.int ((0 : Int) + ((0 : Nat) : Int))), some (.ref e), none, none, none]) ∨ (m = 1 ∧ SqT K H' p [.ref i] ∧ (∃ x2 x3 x4 x5 x6, σ = [some (.ref s), some (.int 1), x2, x3, x4, x5, x6]) ∧ ShelfH CB CC CF (hid ms H') s bk pl (putR rows ch.n ch.b) dn (ud ++ [ch]) (wfs wo) [s, ld, lu, lw] ∧ WoH H' wo (putA am ch.n (ch.b.map (bhM bk pl))) ∧ Kp ([s, ld, lu, lw] ++ wms wo) H1 H'))
      (.inl ⟨rfl, rfl, rfl⟩) (fun m σ H' _ h => ?_) ?_ (fun σ H' h => ?_)
    · rcases h with ⟨_, rfl, _⟩ | ⟨_, h, _⟩
      · exact SqT.of p3
      · exact h
    · rintro m x σ Ha Hb hm h ⟨rfl, hx⟩
      rcases h with ⟨rfl, rfl, rfl⟩ | ⟨rfl, _⟩
      rotate_left
      · simp at hm
      obtain rfl : x = .ref i := (Option.some.inj hx).symm
      refine ⟨i, _, rfl, SqT.of i3, rfl, _, _, rfl, _, _, rfl, _, _, rfl, rfl, ?_⟩
      refine ⟨_, rfl, s, dx, _, rfl, s3, rfl, _, rfl, _, rfl, _, rfl, s, bk, pl, rows, dn, ud ++ [ch], wo, am, ms, [s, ld, lu, lw], ch.n, ch.a, ch.b, rfl, ⟨⟨dx, c, tx, sm, ld, lu, lw, rw, ds', us ++ [e], rfl, shN3⟩, wh.kp kH3 vH, wk, ml, ?_, al⟩, hga, hok, fun H' shO whO kO => ?_⟩
      · intro x hx
        obtain ⟨o, ho⟩ := mi x hx
        refine ⟨o, kH3 _ _ ho ?_⟩
        simp only [List.mem_cons, List.not_mem_nil, or_false]
        rintro (z | z)
        · exact nld (by rw [← z]; exact hx)
        · exact nlu (by rw [← z]; exact hx)
      · have kk : Kp ([s, ld, lu, lw] ++ wms wo) H1 H' := (kH3.sub (by intro x hx; simp only [List.mem_cons, List.not_mem_nil, or_false] at hx; rcases hx with z | z <;> rw [z] <;> simp)).trans (kO.sub (by
          intro x hx
          rcases List.mem_cons.mp hx with z | z
          · rw [z]; simp
          · exact List.mem_append_right _ z))
        refine .inr ⟨rfl, ?_, ⟨_, _, _, _, _, rfl⟩, shO, whO, kk⟩
        refine SqT.of (kO _ _ p3 fun hx => ?_)
        rcases List.mem_cons.mp hx with z | z
        · rw [z] at p3
          rw [s3] at p3
          cases p3
        · cases wo with
          | none => cases z
          | some W =>
            rw [List.mem_singleton.mp z] at p3
            have e3 := kH3.vol vH (wh W rfl).hm nv_dK
            rw [p3] at e3
            cases e3
    · rcases h with ⟨z, _⟩ | ⟨_, _, a, b, c, d⟩
      · cases z
      · exact .inr ⟨rfl, a, b, c, d⟩
  · rintro σ H' (⟨z, _⟩ | ⟨_, ⟨x2, x3, x4, x5, x6, rfl⟩, shO, whO, kO⟩)
    · cases z
    have shO2 := shO
    obtain ⟨dx', c', tx', sm', ld', lu', lw', rw', ds2, us2, efp, aO⟩ := shO2
    simp only [List.cons.injEq, and_true, true_and] at efp
    obtain ⟨rfl, rfl, rfl⟩ := efp
    have aO0 := aO.kp0 (hid_sub ms H')
    have hl2 := Paired.length aO.ed
    refine ⟨_, rfl, _, _, _, _, _, rfl, aO0.hs, T.cl_Shelf, T.no_Shelf_own_done, rfl, ld, _, rfl, .inl (SqL.of aO0.hd), ?_⟩
    rw [List.length_map, hl2]
    exact k H' ⟨[s, ld, lu, lw], shO, fun x hx => .inl hx, whO, kO⟩
theorem c_Shelf_undo (T : Ty K mg CB CC CF) : C8.Met P w K mg base 8 CF "undo" (sp_undo P w K mg base CB CC CF) [.int 1] := by
  obtain ⟨f, fd, F, hm⟩ := T.m_Shelf_undo
  obtain ⟨ds, hv, hb⟩ := F.binds0 (ps := ["self", "many"]) 1 (by simp) rfl (fun D doc pm an cdv ct us ks l1 l2 => by
    match us, ks, l1, l2 with
    | [x], [u], _, _ => exact ⟨_, _, _, _, _, _, rfl, rfl, rfl⟩)
  refine ⟨f, fd, ["self", "many"], ds, T.cl_Shelf, hm, fnOk_of F sc_p_Shelf_undo (fun vs H Q E h => ?_) (b_undo T), hb, hv⟩
  obtain ⟨s, bk, pl, rows, dn, ud, ch, wo, am, ms, fp, rfl, _⟩ := h
  rfl
end
end K75
-- part W14
set_option Elab.async false
set_option linter.all false
set_option maxRecDepth 100000
set_option maxHeartbeats 4000000
namespace K75
open PySem PySem.Spec PyProof.Rows L2
section
variable {P : Program} {w : World} {K : PySem.W.Frag} {mg : Str → Option Value} {base : Heap} {CB CC CF : Addr}
def sp_redo (P : Program) (w : World) (K : PySem.W.Frag) (mg : Str → Option Value) (base : Heap) (CB CC CF : Addr) : Sp := fun vs H Q _ => ∃ (s : Addr) (bk : Bk) (pl : Pl) (rows : Tb) (dn ud : List Chg) (ch : Chg) (wo : Option Wt) (am : Am) (ms fp : List Addr),
  vs = [.ref s, .int 1] ∧ ShIn P w K mg base CB CC CF H s bk pl rows dn (ud ++ [ch]) wo am ms fp ∧ getA rows ch.n = ch.b ∧ RowsOk bk (putR rows ch.n ch.a) ∧
  ∀ H', ShOut CB CC CF H s bk pl (putR rows ch.n ch.a) (dn ++ [ch]) ud wo (putA am ch.n (ch.a.map (bhM bk pl))) ms fp H' → Q (.int (dn.length + 1)) H'
theorem b_redo (T : Ty K mg CB CC CF) : BodyOk P w K mg base "Shelf.redo" s_p_Shelf_redo N_p_Shelf_redo 7 (sp_redo P w K mg base CB CC CF) := by
  intro cdv A outer f s0 H vs Q E hr h
  obtain ⟨s, bk, pl, rows, dn, ud, ch, wo, am, ms, fp, rfl, hin, hga, hok, k⟩ := h
  have sf := hin.sh
  obtain ⟨⟨dx, c, tx, sm, ld, lu, lw, rw, ds, us, rfl, sh⟩, wh, wk, ml, mi, al⟩ := hin
  have h3 : sizeLine = 16777216 := sizeLine_eq
  refine ⟨_, (pss_cons (ps_expr (C8.pe_c (c_p_require_many T) hr (by decide) (by rfl) (pa_cons (pv 1) pa_nil)))
  (pss_cons (ps_expr (C8.pe_mt0 (c_Shelf_require_no_block T) hr (by decide) (pv 0)))
  (pss_cons (ps_if (pt_cmpR op_gt (pv 1) (pe_callB call_len_seq (by rfl) T.n_len (by decide +kernel) (pa_cons (pe_fldK (K := K) rfl (pv 0)) pa_nil)) (nomark _))
    (pss_one ps_never)
    pss_nil)
  (pss_cons (ps_for PassesOwn.never rfl (pi_range1 (by rfl) T.n_range (pa_cons (pv 1) pa_nil)) (pg_name (i := 2) sc_p_Shelf_redo.nd rfl (Or.inl rfl))
    (pss_cons (ps_set (i := 3) sc_p_Shelf_redo.nd rfl (Or.inl rfl) (pe_bm0 PySem.F.plainAttrs_list PySem.F.slot_list_pop PySem.F.type_list_pop mt_pop (pe_fldK (K := K) rfl (pv 0))))
    (pss_cons (ps_expr (pe_bm PySem.F.plainAttrs_list PySem.F.slot_list_append PySem.F.type_list_append mt_append (pe_fldK (K := K) rfl (pv 0)) (pa_cons (pv 3) pa_nil)))
    (pss_one (ps_for PassesOwn.never rfl (pi_tup (pv 3)) (pg_tupK (K := K) (n := 3) rfl (by rfl) (pgs_cons (pg_name (i := 4) sc_p_Shelf_redo.nd rfl (Or.inl rfl)) (pgs_cons (pg_name (i := 5) sc_p_Shelf_redo.nd rfl (Or.inl rfl)) (pgs_cons (pg_name (i := 6) sc_p_Shelf_redo.nd rfl (Or.inl rfl)) pgs_nil))))
      (pss_one (ps_expr (C8.pe_mt (c_Shelf_move T) hr (by decide) (pv 0) (pa_cons (pv 4) (pa_cons (pv 5) (pa_cons (pv 6) pa_nil)))))))))))
  (pss_one (ps_ret (pe_callB call_len_seq (by rfl) T.n_len (by decide +kernel) (pa_cons (pe_fldK (K := K) rfl (pv 0)) pa_nil)))))))), ?_⟩
  have a0 := sh.kp0 (hid_sub ms H)
  have hdl := sh.dl
  have hld := Paired.length sh.ed
  have hlu := Paired.length sh.eu
  rw [List.length_append, List.length_singleton] at hdl hlu
  refine ⟨_, rfl, rfl, ?_⟩
  refine ⟨_, rfl, s, dx, _, rfl, a0.hs, rfl, s, bk, pl, rows, dn, ud ++ [ch], _, _, rfl, sf.kp0 (hid_sub ms H), ?_⟩
  refine ⟨_, rfl, _, rfl, _, _, _, _, _, rfl, a0.hs, T.cl_Shelf, T.no_Shelf_own_undone, rfl, lu, _, rfl, .inl (SqL.of a0.hu), _, _, rfl, rfl, _, rfl, ?_⟩
  refine iteF' (decide_eq_false (by rw [List.length_map]; omega)) ?_
  obtain ⟨us', e, rfl, eu', he⟩ := paired_snoc_inv sh.eu
  obtain ⟨i, he1, hi1⟩ := he
  refine ⟨_, rfl, (((1 : Nat) : Int)), rfl, by omega, by omega, ?_⟩
  rw [Int.toNat_natCast]
  refine for_range (n := 1) (fun j σ H' => (j = 0 ∧ H' = H ∧ σ = [some (.ref s), some (.int 1), none, none, none, none, none]) ∨ (j = 1 ∧ (∃ x2 x3 x4 x5 x6, σ = [some (.ref s), some (.int 1), x2, x3, x4, x5, x6]) ∧ ShelfH CB CC CF (hid ms H') s bk pl (putR rows ch.n ch.a) (dn ++ [ch]) ud (wfs wo) [s, ld, lu, lw] ∧ WoH H' wo (putA am ch.n (ch.a.map (bhM bk pl))) ∧ Kp ([s, ld, lu, lw] ++ wms wo) H H'))
    (.inl ⟨rfl, rfl, rfl⟩) ?_ ?_
  · rintro j σ H1 hj (⟨rfl, rfl, rfl⟩ | ⟨rfl, _⟩)
    rotate_left
    · omega
    refine ⟨_, rfl, _, _, _, _, _, rfl, a0.hs, T.cl_Shelf, T.no_Shelf_own_undone, rfl, .inl ⟨rfl, _, SqL.of a0.hu⟩, lu, (us' ++ [e]).map .ref, .ref e, rfl, rfl, a0.hu, by simp, ?_⟩
    have edl : ((us' ++ [e]).map V.ref).dropLast = us'.map .ref := by rw [List.map_append, List.map_singleton, List.dropLast_concat]
    rw [edl]
    have nlds : ld ≠ s := ne_of a0.hd a0.hs (fun z => nomatch z)
    have nlus : lu ≠ s := ne_of a0.hu a0.hs (fun z => nomatch z)
    refine ⟨_, rfl, _, _, _, _, _, rfl, (upd_ne nlus.symm).trans a0.hs, T.cl_Shelf, T.no_Shelf_own_done, rfl, .inl ⟨rfl, _, SqL.of ((upd_ne sh.n1).trans a0.hd)⟩, _, rfl, ld, ds.map .ref, .ref e, rfl, rfl, (upd_ne sh.n1).trans a0.hd, by rw [List.length_map]; omega, ?_⟩
    obtain ⟨H2, eH2⟩ : ∃ H2, H2 = upd (upd H1 lu (.lst (us'.map .ref))) ld (.lst (ds.map .ref ++ [.ref e])) := ⟨_, rfl⟩
    show (fun Hx => _) (upd (upd H1 lu (.lst (us'.map .ref))) ld (.lst (ds.map .ref ++ [.ref e])))
    rw [← eH2]
    have kH2 : Kp [ld, lu] H1 H2 := by
      rw [eH2]
      exact ((kp_refl H1).up (.inr (by simp))).up (.inr (by simp))
    have u2 : H2 lu = some (.lst (us'.map .ref)) := by rw [eH2, upd_ne sh.n1.symm, upd_same]
    have d2 : H2 ld = some (.lst ((ds ++ [e]).map .ref)) := by rw [eH2, upd_same, List.map_append]; rfl
    clear eH2
    have kG : Kp [ld, lu] (hid ms H1) (hid ms H2) := hid_kp kH2 fun x hx => .inl hx
    have vG : VolAt CF (hid ms H1) [ld, lu] := fun x hx => by
      simp only [List.mem_cons, List.not_mem_nil, or_false] at hx
      rcases hx with z | z <;> rw [z]
      · exact ⟨_, sh.hd, .inl ⟨_, rfl⟩⟩
      · exact ⟨_, sh.hu, .inl ⟨_, rfl⟩⟩
    have vH : VolAt CF H1 [ld, lu] := vol_hid vG
    have nld : ld ∉ ms := (hid_some sh.hd).1
    have nlu : lu ∉ ms := (hid_some sh.hu).1
    have shN : ShAt CB CC CF (hid ms H2) s bk pl rows (dn ++ [ch]) ud (wfs wo) dx c tx sm ld lu lw rw (ds ++ [e]) us' :=
      ⟨kG _ _ sh.hs (by simpa using ⟨nlds.symm, nlus.symm⟩), sh.hc.kp kG vG T.n_BF T.n_CF, kG.vol vG sh.ht nv_dK, sh.pr, sh.so, sh.ok, kG.vol vG sh.hm nv_tup, by rw [hid_out nld]; exact d2, by rw [hid_out nlu]; exact u2, kG _ _ sh.hw (by simpa using ⟨sh.n2.symm, sh.n3.symm⟩),
        paired_snoc (sh.ed.kp kG vG) (EntH.kp ⟨i, he1, hi1⟩ kG vG), EntsH.kp eu' kG vG, sh.n1, sh.n2, sh.n3, by rw [List.length_append, List.length_singleton]; omega, sh.wl⟩
    have e2 : H2 e = some (.tup [.ref i]) := kH2.vol vH (hid_some he1).2 nv_tup
    have i2 : H2 i = some (.tup [tv ch.n, otv ch.b, otv ch.a]) := kH2.vol vH (hid_some hi1).2 nv_tup
    refine ⟨_, rfl, e, rfl, ⟨_, SqT.of e2⟩, ?_⟩
    have shN3 := shN
    have i3 := i2
    have p3 := e2
    have s3 := (hid_some shN3.hs).2
    have kH3 := kH2
    refine for_it (walk_tup (K := K) (a := e) (xs := [.ref i])) (fun m σ H' => (m = 0 ∧ H' = H2 ∧ σ = [some (.ref s), some (.int 1), some (.int ((0 : Int) + ((0 : Nat) : Int))), some (.ref e), none, none, none]) ∨ (m = 1 ∧ SqT K H' e [.ref i] ∧ (∃ x2 x3 x4 x5 x6, σ = [some (.ref s), some (.int 1), x2, x3, x4, x5, x6]) ∧ ShelfH CB CC CF (hid ms H') s bk pl (putR rows ch.n ch.a) (dn ++ [ch]) ud (wfs wo) [s, ld, lu, lw] ∧ WoH H' wo (putA am ch.n (ch.a.map (bhM bk pl))) ∧ Kp ([s, ld, lu, lw] ++ wms wo) H1 H'))
      (.inl ⟨rfl, rfl, rfl⟩) (fun m σ H' _ h => ?_) ?_ (fun σ H' h => ?_)
    · rcases h with ⟨_, rfl, _⟩ | ⟨_, h, _⟩
      · exact SqT.of p3
      · exact h
    · rintro m x σ Ha Hb hm h ⟨rfl, hx⟩
      rcases h with ⟨rfl, rfl, rfl⟩ | ⟨rfl, _⟩
      rotate_left
      · simp at hm
      obtain rfl : x = .ref i := (Option.some.inj hx).symm
      refine ⟨i, _, rfl, SqT.of i3, rfl, _, _, rfl, _, _, rfl, _, _, rfl, rfl, ?_⟩
      refine ⟨_, rfl, s, dx, _, rfl, s3, rfl, _, rfl, _, rfl, _, rfl, s, bk, pl, rows, dn ++ [ch], ud, wo, am, ms, [s, ld, lu, lw], ch.n, ch.b, ch.a, rfl, ⟨⟨dx, c, tx, sm, ld, lu, lw, rw, ds ++ [e], us', rfl, shN3⟩, wh.kp kH3 vH, wk, ml, ?_, al⟩, hga, hok, fun H' shO whO kO => ?_⟩
      · intro x hx
        obtain ⟨o, ho⟩ := mi x hx
        refine ⟨o, kH3 _ _ ho ?_⟩
        simp only [List.mem_cons, List.not_mem_nil, or_false]
        rintro (z | z)
        · exact nld (by rw [← z]; exact hx)
        · exact nlu (by rw [← z]; exact hx)
      · have kk : Kp ([s, ld, lu, lw] ++ wms wo) H1 H' := (kH3.sub (by intro x hx; simp only [List.mem_cons, List.not_mem_nil, or_false] at hx; rcases hx with z | z <;> rw [z] <;> simp)).trans (kO.sub (by
          intro x hx
          rcases List.mem_cons.mp hx with z | z
          · rw [z]; simp
          · exact List.mem_append_right _ z))
        refine .inr ⟨rfl, ?_, ⟨_, _, _, _, _, rfl⟩, shO, whO, kk⟩
        refine SqT.of (kO _ _ p3 fun hx => ?_)
        rcases List.mem_cons.mp hx with z | z
        · rw [z] at p3
          rw [s3] at p3
          cases p3
        · cases wo with
          | none => cases z
          | some W =>
            rw [List.mem_singleton.mp z] at p3
            have e3 := kH3.vol vH (wh W rfl).hm nv_dK
            rw [p3] at e3
            cases e3
    · rcases h with ⟨z, _⟩ | ⟨_, _, a, b, c, d⟩
      · cases z
      · exact .inr ⟨rfl, a, b, c, d⟩
  · rintro σ H' (⟨z, _⟩ | ⟨_, ⟨x2, x3, x4, x5, x6, rfl⟩, shO, whO, kO⟩)
    · cases z
    have shO2 := shO
    obtain ⟨dx', c', tx', sm', ld', lu', lw', rw', ds2, us2, efp, aO⟩ := shO2
    simp only [List.cons.injEq, and_true, true_and] at efp
    obtain ⟨rfl, rfl, rfl⟩ := efp
    have aO0 := aO.kp0 (hid_sub ms H')
    have hl2 := Paired.length aO.ed
    refine ⟨_, rfl, _, _, _, _, _, rfl, aO0.hs, T.cl_Shelf, T.no_Shelf_own_done, rfl, ld, _, rfl, .inl (SqL.of aO0.hd), ?_⟩
    rw [List.length_map, hl2, List.length_append]
    exact k H' ⟨[s, ld, lu, lw], shO, fun x hx => .inl hx, whO, kO⟩
theorem c_Shelf_redo (T : Ty K mg CB CC CF) : C8.Met P w K mg base 8 CF "redo" (sp_redo P w K mg base CB CC CF) [.int 1] := by
  obtain ⟨f, fd, F, hm⟩ := T.m_Shelf_redo
  obtain ⟨ds, hv, hb⟩ := F.binds0 (ps := ["self", "many"]) 1 (by simp) rfl (fun D doc pm an cdv ct us ks l1 l2 => by
    match us, ks, l1, l2 with
    | [x], [u], _, _ => exact ⟨_, _, _, _, _, _, rfl, rfl, rfl⟩)
  refine ⟨f, fd, ["self", "many"], ds, T.cl_Shelf, hm, fnOk_of F sc_p_Shelf_redo (fun vs H Q E h => ?_) (b_redo T), hb, hv⟩
  obtain ⟨s, bk, pl, rows, dn, ud, ch, wo, am, ms, fp, rfl, _⟩ := h
  rfl
end
end K75
-- part W15
set_option Elab.async false
set_option linter.all false
set_option maxRecDepth 100000
set_option maxHeartbeats 4000000
namespace K75
open PySem PySem.Spec PyProof.Rows L2
/-- a comprehension whose element is made by calls that make new objects alone -/
theorem lc_grow {J : It} {n : Nat} {G : Hp → Prop} {Y : Nat → Hp → V → Hp → Prop} (w : Walk J n G Y) {g : TG} {tt : TT} {te : TE} {vs : List Nat} {σ : L2.St} {H1 : Hp} {D : Addr} {Qd : Hp → Prop} (f : Nat → V) (hD : H1 D = none) (hz : n < sizeLine) (hG : ∀ H, Kp [] H1 H → G H)
    (hs : ∀ i x H H' (Nx : Hp → Prop), i < n → Kp [] H1 H → Y i H x H' → (∀ H4, Kp [] H H4 → ∃ acc, H4 D = some (.lst acc) ∧ acc.length < sizeLine ∧ Nx (upd H4 D (.lst (acc ++ [f i])))) → g x (wipe σ vs) H' fun σ2 H2 => wipe σ2 vs = wipe σ vs ∧ tt σ2 H2 fun b H3 =>
      if b = true then te σ2 H3 fun y H4 => ∃ acc, H4 D = some (.lst acc) ∧ acc.length < sizeLine ∧ Nx (upd H4 D (.lst (acc ++ [y]))) else Nx H3)
    (hd : ∀ H, Kp [] H1 H → H D = some (.lst ((List.range n).map f)) → Qd H) :
    ∃ W : Nat → Nat → Hp → Prop, (∃ m, W 0 m (upd H1 D (.lst []))) ∧ ∀ i m H, W i m H →
      (J.stop i H ∧ Qd H) ∨ (J.go i H ∧ ∃ Nx : Hp → Prop, (∀ H', Nx H' → ∃ m', m' < m ∧ W (i + 1) m' H') ∧ ∀ x H', J.yld i H x H' → g x (wipe σ vs) H' fun σ2 H2 => wipe σ2 vs = wipe σ vs ∧ tt σ2 H2 fun b H3 =>
        if b = true then te σ2 H3 fun y H4 => ∃ acc, H4 D = some (.lst acc) ∧ acc.length < sizeLine ∧ Nx (upd H4 D (.lst (acc ++ [y]))) else Nx H3) := by
  refine lc_it w (fun i H => Kp [] H1 H ∧ H D = some (.lst ((List.range i).map f))) ⟨(kp_refl H1).up (.inl hD), upd_same⟩ (fun i H _ h => hG H h.1) ?_ (fun H h => hd H h.1 h.2)
  rintro i x H H' hi ⟨hk, hDd⟩ hy
  refine hs i x H H' _ hi hk hy fun H4 k4 => ⟨_, k4 _ _ hDd (by simp), by rw [List.length_map, List.length_range]; omega, (hk.trans k4).up (.inl hD), ?_⟩
  rw [upd_same, List.range_succ, List.map_append]
  rfl
theorem map_range {α : Type} {l : List α} {β : Type} (g : α → β) (d : α) : (List.range l.length).map (fun i => g (l[i]?.getD d)) = l.map g := by
  refine List.ext_getElem (by simp) fun i h1 h2 => ?_
  have h3 : i < l.length := by simpa using h2
  simp [h3]
section
variable {P : Program} {w : World} {K : PySem.W.Frag} {mg : Str → Option Value} {base : Heap} {CB CC CF : Addr}
def tds : V → List Addr
  | .ref d => [d]
  | _ => []
theorem hid_new {H : Hp} {p : Addr} {o : HO} (h : H p = none) : Kp [] H (hid [p] (upd H p o)) := fun b u e _ => by
  have nb := ne_of_none e h
  rw [hid_out (by simpa using nb), upd_ne nb]
  exact e
def sp_Shelf (CB CC CF : Addr) : Sp := fun vs H Q _ => ∃ (s dx c : Addr) (tx : V) (bk : Bk) (pl : Pl) (m : Tb), vs = [.ref s, .ref c, tx] ∧ H s = some (.ins CF dx []) ∧ CutH CB CC (hid (tds tx) H) c bk pl ∧ GivT H tx m ∧ RowsOk bk m ∧
  ∀ (H' : Hp) (fp : List Addr), ShelfH CB CC CF H' s bk pl m [] [] [] fp → (∀ x ∈ fp, x = s ∨ H x = none) → Kp [s] H H' → Q .non H'
theorem b_Shelf (T : Ty K mg CB CC CF) : BodyOk P w K mg base "Shelf.__init__" s_p_Shelf___init__ N_p_Shelf___init__ 5 (sp_Shelf CB CC CF) := by
  intro cdv A outer f s0 H vs Q E hr h
  obtain ⟨s, dx, c, tx, bk, pl, m, rfl, hs, hch, hg, hok, k⟩ := h
  have hc : CutH CB CC H c bk pl := hch.kp0 (hid_sub _ H)
  have h3 : sizeLine = 16777216 := sizeLine_eq
  have h50 := hok.le
  refine ⟨_, (pss_cons (ps_expr (C8.pe_c (c_p_require_cutter T) hr (by decide) (by rfl) (pa_cons (pv 1) pa_nil)))
  (C8.pss_cut (ps_set (i := 2) sc_p_Shelf___init__.nd rfl (Or.inr rfl) (pe_ifExp (pt_cmpR op_isN (pv 2) pe_non (nomark _)) pe_dnewK (pv 2)))
  (C8.pss_cut (ps_if (PW.pt (pw_or (pt_not (pt_val (pe_callB (cr_isi (K := K) rfl) (by rfl) T.n_isinstance (by decide +kernel) (pa_cons (pv 2) (pa_cons (pe_bltn (v := .ty "dict") (u := .type "dict") (by rfl) T.n_dict (by decide +kernel) rfl) pa_nil))))) (pw_or1 (pt_not (pt_val (pe_callB (cr_all rfl) (by rfl) T.n_all (by decide +kernel) (pa_cons (pe_lock (pe_lc (own := [("name", 3)]) (g := gName 3) rfl sc_p_Shelf___init__.nd (pi_keys (pv 2)) (blkOk_by (own := [("name", 3)]) (N := N_p_Shelf___init__) (sc := (defScope s_p_Shelf___init__)) (by decide +kernel)) (fun _ _ _ _ _ => (pg_name (i := 3) sc_p_Shelf___init__.nd rfl (Or.inl rfl))) (fun _ _ _ _ _ => pts_nil) (fun _ _ _ _ _ => (C8.pe_c (c_p_is_name T) hr (by decide) (by rfl) (pa_cons (pv 3) pa_nil))))) pa_nil)))))))
    (pss_one ps_never)
    pss_nil)
  (C8.pss_cut (ps_lock (ps_for PassesOwn.never rfl (pi_keys (pv 2)) (pg_name (i := 3) sc_p_Shelf___init__.nd rfl (Or.inl rfl))
    (pss_one (ps_expr (C8.pe_c (c_p_require_text T) hr (by decide) (by rfl) (pa_cons (pe_fldK (K := K) rfl (pv 1)) (pa_cons (pe_dget (hu1 hr) (pv 2) (pv 3) (fun _ _ => rfl)) pa_nil)))))))
  (pss_cons (ps_if (pt_cmpR op_gt (pe_callB call_lenD (by rfl) T.n_len (by decide +kernel) (pa_cons (pv 2) pa_nil)) (C8.pe_gc (v := .int 50) (by rfl) (gi T.g_MAX_TEXTS)) (nomark _))
    (pss_one ps_never)
    pss_nil)
  (C8.pss_cut (ps_fld (pv 0) (pv 1) rfl)
  (C8.pss_cut (ps_fld (pv 0) (pe_dc (own := [("name", 3)]) (g := gName 3) rfl sc_p_Shelf___init__.nd (pi_list (pe_callB (call_sortedD rfl) (by rfl) T.n_sorted (by decide +kernel) (pa_cons (pv 2) pa_nil))) (blkOk_by (own := [("name", 3)]) (N := N_p_Shelf___init__) (sc := (defScope s_p_Shelf___init__)) (by decide +kernel)) (fun _ _ _ _ _ => (pg_name (i := 3) sc_p_Shelf___init__.nd rfl (Or.inl rfl))) (fun _ _ _ _ _ => pts_nil) (fun _ _ _ _ _ => (pv 3)) (fun _ _ _ _ _ => (pe_dget (hu1 hr) (pv 2) (pv 3) (fun _ _ => rfl)))) rfl)
  (C8.pss_cut (ps_lock (ps_for PassesOwn.never rfl (pi_values (pe_fldK (K := K) rfl (pv 0))) (pg_name (i := 4) sc_p_Shelf___init__.nd rfl (Or.inl rfl))
    (pss_one (ps_expr (C8.pe_mt (c_Shelf_require_near T) hr (by decide) (pv 0) (pa_cons (pv 4) pa_nil))))))
  (C8.pss_cut (ps_lock (ps_setLc (i := 5) (own := [("text", 4)]) (g := gName 4) rfl sc_p_Shelf___init__.nd rfl rfl (sw_true rfl rfl rfl (by decide +kernel)) (pi_values (pe_fldK (K := K) rfl (pv 0))) (blkOk_by (own := [("text", 4)]) (N := N_p_Shelf___init__) (sc := (defScope s_p_Shelf___init__)) (by decide +kernel)) (fun _ _ _ _ _ => (pg_name (i := 4) sc_p_Shelf___init__.nd rfl (Or.inl rfl))) (fun _ _ _ _ _ => pts_nil) (fun _ _ _ _ _ => (C8.pe_mt (c_Cutter_price_in T) hr (by decide) (pv 1) (pa_cons (pv 4) pa_nil)))))
  (C8.pss_cut (ps_fld (pv 0) (pe_tup (pa_cons (pe_callB (cr_sum rfl) (by rfl) T.n_sum (by decide +kernel) (pa_cons (pv 5) pa_nil)) (pa_cons (pe_callB (cr_sum rfl) (by rfl) T.n_sum (by decide +kernel) (pa_cons (pe_lock (pe_lc (own := [("text", 4)]) (g := gName 4) rfl sc_p_Shelf___init__.nd (pi_values (pe_fldK (K := K) rfl (pv 0))) (blkOk_by (own := [("text", 4)]) (N := N_p_Shelf___init__) (sc := (defScope s_p_Shelf___init__)) (by decide +kernel)) (fun _ _ _ _ _ => (pg_name (i := 4) sc_p_Shelf___init__.nd rfl (Or.inl rfl))) (fun _ _ _ _ _ => pts_nil) (fun _ _ _ _ _ => (C8.pe_mt (c_Cutter_behind T) hr (by decide) (pv 1) (pa_cons (pv 4) pa_nil))))) pa_nil)) pa_nil))) rfl)
  (C8.pss_cut (ps_fld (pv 0) (pe_lst pa_nil) rfl)
  (C8.pss_cut (ps_fld (pv 0) (pe_lst pa_nil) rfl)
  (C8.pss_cut (ps_fld (pv 0) pe_non rfl)
  (C8.pss_cut (ps_fld (pv 0) pe_non rfl)
  (pss_one (ps_fld (pv 0) (pe_lst pa_nil) rfl)))))))))))))))), ?_⟩
  have vs1 : VolAt CF H [s] := fun x hx => by
    rw [List.mem_singleton.mp hx]
    exact ⟨_, hs, .inr ⟨_, _, rfl⟩⟩
  have cut : ∀ {H' : Hp}, Kp [s] H H' → CutH CB CC H' c bk pl := fun kk => hc.kp kk vs1 T.n_BF T.n_CF
  have hca : ∃ dxc fs, H c = some (.ins CC dxc fs) := by
    obtain ⟨dxc, ab, oo, tb, en, sz, rw0, la, ns, ca⟩ := hc
    exact ⟨_, _, ca.ha⟩
  obtain ⟨dxc, fsc, hca⟩ := hca
  refine ⟨_, rfl, c, dxc, fsc, rfl, hca, ?_⟩
  refine ⟨fun σ H' => ∃ d, σ = [some (.ref s), some (.ref c), some (.ref d), none, none, none] ∧ Kp [] H H' ∧ H' d = some (.dK (dV tv m)) ∧ CutH CB CC (hid [d] H') c bk pl, ?_, ?_⟩
  · rcases hg with ⟨d, rfl, hd⟩ | ⟨rfl, e⟩
    · exact ⟨_, rfl, rfl, _, rfl, iteF' rfl ⟨_, rfl, d, rfl, kp_refl H, hd, hch⟩⟩
    · exact ⟨_, rfl, rfl, _, rfl, iteT' rfl fun d hd => ⟨d, rfl, (kp_refl H).up (.inl hd), by rw [upd_same, e]; rfl, hc.kp0 (hid_new hd)⟩⟩
  rintro σ' H1 ⟨d, rfl, k1, d1, hc1⟩
  have nsd : s ≠ d := ne_of (k1 _ _ hs (by simp)) d1 (fun z => nomatch z)
  refine ⟨fun σ H' => σ = [some (.ref s), some (.ref c), some (.ref d), none, none, none] ∧ Kp [] H H' ∧ H' d = some (.dK (dV tv m)) ∧ CutH CB CC (hid [d] H') c bk pl, ?_, ?_⟩
  · refine ⟨_, rfl, _, _, _, _, true, rfl, .ty _, .base (.dK d1), kit_ty (by decide +kernel), _, rfl, ?_⟩
    refine iteF' rfl ?_
    refine ⟨d, _, d1, trivial, fun od => ?_⟩
    refine ⟨_, rfl, d, od, rfl, .inl ⟨_, upd_same, fun D hD => ?_⟩⟩
    obtain ⟨hD1, nDd⟩ := none_of_upd hD
    refine lc_grow walk_keys (fun _ => .bl true) hD (by rw [dV_length]; omega) (fun H' kk => kk _ _ upd_same (by simp)) ?_ ?_
    · rintro i x Ha Hb Nx hi kk ⟨rfl, ⟨key, v, hkv, rfl⟩⟩ done
      rw [dV_length] at hi
      have hkv2 : (dV tv m)[i]? = some (kx m[i].1, tv m[i].2) := by
        unfold dV
        rw [List.getElem?_map, List.getElem?_eq_getElem hi]
        rfl
      rw [hkv2] at hkv
      cases hkv
      exact ⟨rfl, _, rfl, m[i].1, rfl, hok.nm _ (List.getElem_mem hi), fun H2 k2 => done H2 k2⟩
    · intro H2 k2 hDd
      rw [dV_length] at hDd
      have hk : Kp [] H1 (upd H2 d (.dK (dV tv m))) := kp_unlock d1 (fun b o e n => k2 b o (by rw [upd_ne (by simpa using n)]; exact e) (by simp))
      refine ⟨k2 _ _ upd_same (by simp), ?_⟩
      refine ⟨D, List.replicate m.length true, rfl, SqL.of ?_, _, rfl, ?_⟩
      · rw [upd_ne nDd, hDd]
        congr 2
        refine List.ext_getElem (by simp) fun i h1 h2 => ?_
        simp
      · rw [all_true]
        exact iteF' rfl ⟨rfl, k1.trans hk, upd_same, hc1.kp0 (hid_kp hk fun x hx => by cases hx)⟩
  rintro σ' H2 ⟨rfl, k2, d2, hc2⟩
  clear k1 d1 hc1
  -- each text
  refine ⟨fun σ H' => ∃ x3, σ = [some (.ref s), some (.ref c), some (.ref d), x3, none, none] ∧ Kp [] H H' ∧ H' d = some (.dK (dV tv m)), ?_, ?_⟩
  · refine ⟨d, _, d2, trivial, fun od => ?_⟩
    refine ⟨_, rfl, d, od, rfl, .inl ⟨_, upd_same, ?_⟩⟩
    refine for_it walk_keys (fun i σ H' => ∃ x3, σ = [some (.ref s), some (.ref c), some (.ref d), x3, none, none] ∧ Kp [] (upd H2 d (.frz od (.dK (dV tv m)))) H') ⟨none, rfl, kp_refl _⟩ (fun i σ H' _ h => ?_) ?_ (fun σ H' h => ?_)
    · obtain ⟨_, _, kk⟩ := h
      exact kk _ _ upd_same (by simp)
    · rintro i x σ Ha Hb hi ⟨x3, rfl, kk⟩ ⟨rfl, ⟨key, v, hkv, rfl⟩⟩
      rw [dV_length] at hi
      have hkv2 : (dV tv m)[i]? = some (kx m[i].1, tv m[i].2) := by
        unfold dV
        rw [List.getElem?_map, List.getElem?_eq_getElem hi]
        rfl
      rw [hkv2] at hkv
      cases hkv
      have kHd : Kp [d] H Hb := fun b o e n => kk b o (by rw [upd_ne (by simpa using n)]; exact k2 b o e (by simp)) (by simp)
      have hdb := kk _ _ upd_same (by simp)
      have hm := List.getElem_mem hi
      have htx := hok.tx _ hm
      have hcut : CutH CB CC Hb c bk pl := by
        have kd : Kp [d] H2 Hb := fun b o e n => kk b o (by rw [upd_ne (by simpa using n)]; exact e) (by simp)
        exact (hc2.kp0 (hid_kp (D := []) kd fun x hx => .inr (.inl hx))).kp0 (hid_sub _ Hb)
      obtain ⟨dxc, ab, oo, tb, en, sz, rw0, la, ns, ca⟩ := hcut
      refine ⟨_, rfl, _, _, _, _, _, rfl, ca.ha, T.cl_Cutter, T.no_Cutter_own_book, rfl, _, rfl, _, rfl, d, tv m[i].2, rfl, ?_, ab, bk, m[i].2, rfl, ca.hb, htx.1, htx.2, fun H3 k3 => ⟨_, rfl, kk.trans k3⟩⟩
      refine .inl ⟨dV tv m, kx m[i].1, .inr ⟨_, hdb⟩, rfl, ?_⟩
      rw [valV_dV, getA_mem hok.nd (show (m[i].1, m[i].2) ∈ m from hm)]
      rfl
    · obtain ⟨x3, rfl, kk⟩ := h
      have hk : Kp [] H2 (upd H' d (.dK (dV tv m))) := kp_unlock d2 (fun b o e n => kk b o (by rw [upd_ne (by simpa using n)]; exact e) (by simp))
      exact ⟨kk _ _ upd_same (by simp), x3, rfl, k2.trans hk, upd_same⟩
  rintro σ' H3 ⟨x3, rfl, k3, d3⟩
  clear k2 d2 hc2
  refine ⟨_, rfl, d, _, rfl, d3, _, _, rfl, rfl, _, rfl, ?_⟩
  refine iteF' (decide_eq_false (by rw [dV_length]; omega)) ?_
  refine ⟨fun σ H' => σ = [some (.ref s), some (.ref c), some (.ref d), x3, none, none] ∧ Kp [s] H H' ∧ H' d = some (.dK (dV tv m)) ∧ H' s = some (.ins CF dx [("own_cutter", .ref c)]), ?_, ?_⟩
  · refine ⟨_, rfl, _, rfl, s, CF, dx, _, rfl, k3 _ _ hs (by simp), T.cl_Shelf, T.no_Shelf_own_cutter, by simp, rfl, (k3.any [s]).up (.inr (by simp)), ?_, upd_same⟩
    rw [upd_ne nsd.symm]; exact d3
  rintro σ' H4 ⟨rfl, k4, d4, s4⟩
  clear k3 d3
  refine ⟨fun σ H' => ∃ (D2 : Addr) (rw : Tb) (x : Option V), σ = [some (.ref s), some (.ref c), some (.ref d), x, none, none] ∧ Kp [s] H H' ∧ H D2 = none ∧ H' s = some (.ins CF dx [("own_cutter", .ref c), ("own_texts", .ref D2)]) ∧ H' D2 = some (.dK (dV tv rw)) ∧ rw.Perm m ∧ Srt (rw.map (·.1)), ?_, ?_⟩
  · refine ⟨_, rfl, d, dV tv m, (m.map (·.1)).map SX.S, rfl, .inl d4, by simp only [dV, List.map_map]; rfl, by rw [List.length_map, List.length_map]; omega, fun ys q hys hso hq => ?_⟩
    obtain ⟨ls, rfl, hls, hsr⟩ := perm_S hys hso
    have kq : Kp [] H4 (upd H4 q (.lst ((ls.map SX.S).map V.str))) := (kp_refl H4).up (.inl hq)
    have hqq : upd H4 q (.lst ((ls.map SX.S).map V.str)) q = some (.lst (ls.map tv)) := by
      rw [upd_same, List.map_map]
      rfl
    generalize upd H4 q (.lst ((ls.map SX.S).map V.str)) = H5 at kq hqq
    have s5 := kq _ _ s4 (by simp)
    have d5 := kq _ _ d4 (by simp)
    have k5 : Kp [s] H H5 := k4.trans (kq.any [s])
    refine ⟨q, rfl, ⟨_, SqL.of hqq⟩, fun D2 hD2 => ?_⟩
    have hqD := ne_of_none hqq hD2
    have hdD := ne_of_none d5 hD2
    have hsD := ne_of_none s5 hD2
    have hlsl := hls.length_eq
    rw [List.length_map] at hlsl
    have hD2f : H D2 = none := k5.free hD2 (by simpa using hsD.symm)
    refine dc_texts (f := tv) ls (fun t => (getA m t).getD []) (hls.nodup_iff.mpr hok.nd) (fun kvs => SqL.of (by rw [upd_ne hqD]; exact hqq)) (by omega) ?_ ?_
    · intro t ht kvs Nx hz nx
      obtain ⟨p, hp, ep⟩ := List.mem_map.mp (hls.mem_iff.mp ht)
      have hg := getA_mem hok.nd (show (p.1, p.2) ∈ m from hp)
      rw [ep] at hg
      refine ⟨rfl, _, rfl, _, rfl, _, rfl, d, tv p.2, rfl, ?_, kvs, kx t, rfl, upd_same, hz, ?_⟩
      · exact dget_S (f := tv) (by rw [upd_ne hdD]; exact d5) hg
      · rw [upd_upd]
        rw [hg] at nx
        exact nx
    refine ⟨_, rfl, s, CF, dx, _, rfl, by rw [upd_ne hsD]; exact s5, T.cl_Shelf, T.no_Shelf_own_texts, by simp, D2, _, _, rfl, (k5.up (.inl hD2f)).up (.inr (by simp)), hD2f, upd_same, ?_, tb_dict (ls := m) hok.nd hls, ?_⟩
    · rw [upd_ne hsD.symm, upd_same]
    · rw [List.map_map]
      have e : ((fun x : Tx0 × Tx0 => x.1) ∘ fun t => (t, (getA m t).getD [])) = id := rfl
      rw [e, List.map_id]
      exact hsr
  rintro σ' H5 ⟨D2, rw, x5, rfl, k5, hD2f, s5, e5, pr, so⟩
  clear k4 d4 s4
  have hrl := pr.length_eq
  have okr : RowsOk bk rw := hok.perm pr.symm
  have nsD : s ≠ D2 := ne_of s5 e5 (fun z => nomatch z)
  have val : ∀ {i : Nat} {key : Key} {v : V}, i < (dV tv rw).length → (dV tv rw)[i]? = some (key, v) → ∃ h : i < rw.length, v = tv rw[i].2 := fun {i key v} hi e => by
    rw [dV_length] at hi
    refine ⟨hi, ?_⟩
    have e2 : (dV tv rw)[i]? = some (kx rw[i].1, tv rw[i].2) := by
      unfold dV
      rw [List.getElem?_map, List.getElem?_eq_getElem hi]
      rfl
    rw [e2] at e
    cases e
    rfl
  -- require_near of each
  refine ⟨fun σ H' => ∃ x x4, σ = [some (.ref s), some (.ref c), some (.ref d), x, x4, none] ∧ Kp [s] H H' ∧ H' s = some (.ins CF dx [("own_cutter", .ref c), ("own_texts", .ref D2)]) ∧ H' D2 = some (.dK (dV tv rw)), ?_, ?_⟩
  · refine ⟨D2, _, e5, trivial, fun od => ?_⟩
    refine ⟨_, rfl, _, _, _, _, _, rfl, (upd_ne nsD).trans s5, T.cl_Shelf, T.no_Shelf_own_texts, rfl, D2, od, _, rfl, upd_same, ?_⟩
    refine for_it walk_values (fun i σ H' => ∃ x4, σ = [some (.ref s), some (.ref c), some (.ref d), x5, x4, none] ∧ H' = upd H5 D2 (.frz od (.dK (dV tv rw)))) ⟨none, rfl, rfl⟩ (fun i σ H' _ h => ?_) ?_ (fun σ H' h => ?_)
    · obtain ⟨_, _, rfl⟩ := h
      exact upd_same
    · rintro i x σ Ha Hb hi ⟨x4, rfl, eH⟩ ⟨eB, ⟨key, hkv⟩⟩
      subst eB
      have sB : Hb s = some (.ins CF dx [("own_cutter", .ref c), ("own_texts", .ref D2)]) := by rw [eH, upd_ne nsD]; exact s5
      exact ⟨_, rfl, s, dx, _, rfl, sB, rfl, _, rfl, s, dx, _, _, rfl, sB, _, rfl, eH⟩
    · obtain ⟨x4, rfl, rfl⟩ := h
      refine ⟨upd_same, x5, x4, rfl, ?_, ?_, upd_same⟩
      · rw [upd_upd]
        exact k5.up (.inl hD2f)
      · rw [upd_upd, upd_ne nsD]; exact s5
  rintro σ' H6 ⟨x6, x64, rfl, k6, s6, e6⟩
  clear k5 s5 e5
  have kfr : ∀ {od : Obj} {Hx : Hp}, Kp [] (upd H6 D2 (.frz od (.dK (dV tv rw)))) Hx → Kp [s] H Hx := fun {od Hx} kk b o e n => kk b o (by rw [upd_ne (ne_of_none e hD2f)]; exact k6 b o e n) (by simp)
  have kun : ∀ {od : Obj} {Hx : Hp}, Kp [] (upd H6 D2 (.frz od (.dK (dV tv rw)))) Hx → Kp [] H6 (upd Hx D2 (.dK (dV tv rw))) := fun {od Hx} kk => kp_unlock e6 (fun b o e n => kk b o (by rw [upd_ne (by simpa using n)]; exact e) (by simp))
  -- prices
  refine ⟨fun σ H' => ∃ x x4 q, σ = [some (.ref s), some (.ref c), some (.ref d), x, x4, some (.ref q)] ∧ Kp [s] H H' ∧ H' s = some (.ins CF dx [("own_cutter", .ref c), ("own_texts", .ref D2)]) ∧ H' D2 = some (.dK (dV tv rw)) ∧ H' q = some (.lst ((rw.map fun p => prM bk pl p.2).map V.int)), ?_, ?_⟩
  · refine ⟨D2, _, e6, trivial, fun od => ?_⟩
    refine ⟨_, rfl, _, _, _, _, _, rfl, (upd_ne nsD).trans s6, T.cl_Shelf, T.no_Shelf_own_texts, rfl, D2, od, _, rfl, upd_same, fun D hD => ?_⟩
    obtain ⟨hD1, nDd⟩ := none_of_upd hD
    refine lc_grow walk_values (fun i => .int (prM bk pl (rw[i]?.getD ([], [])).2)) hD (by rw [dV_length]; omega) (fun H' kk => kk _ _ upd_same (by simp)) ?_ ?_
    · rintro i x Ha Hb Nx hi kk ⟨eB, ⟨key, hkv⟩⟩ done
      subst eB
      obtain ⟨hi2, rfl⟩ := val hi hkv
      have htx := okr.tx _ (List.getElem_mem hi2)
      obtain ⟨dxc, ab, oo, tb, en, sz, rw0, la, ns, ca⟩ := cut (kfr kk)
      refine ⟨rfl, _, rfl, c, dxc, _, rfl, ca.ha, rfl, _, rfl, c, bk, pl, _, rfl, ⟨dxc, ab, oo, tb, en, sz, rw0, la, ns, ca⟩, htx.1, htx.2, fun H2 k2 => ?_⟩
      have dn := done H2 k2
      rw [List.getElem?_eq_getElem hi2] at dn
      exact dn
    · intro H2 k2 hDd
      rw [dV_length, map_range (l := rw) (fun p => V.int (prM bk pl p.2))] at hDd
      refine ⟨k2 _ _ upd_same (by simp), x6, x64, D, rfl, k6.trans ((kun k2).any [s]), kun k2 _ _ s6 (by simp), upd_same, ?_⟩
      rw [upd_ne nDd, hDd, List.map_map]
      rfl
  rintro σ' H7 ⟨x7, x74, q, rfl, k7, s7, e7, q7⟩
  clear kfr kun k6 s6 e6
  have kfr : ∀ {od : Obj} {Hx : Hp}, Kp [] (upd H7 D2 (.frz od (.dK (dV tv rw)))) Hx → Kp [s] H Hx := fun {od Hx} kk b o e n => kk b o (by rw [upd_ne (ne_of_none e hD2f)]; exact k7 b o e n) (by simp)
  have kun : ∀ {od : Obj} {Hx : Hp}, Kp [] (upd H7 D2 (.frz od (.dK (dV tv rw)))) Hx → Kp [] H7 (upd Hx D2 (.dK (dV tv rw))) := fun {od Hx} kk => kp_unlock e7 (fun b o e n => kk b o (by rw [upd_ne (by simpa using n)]; exact e) (by simp))
  refine ⟨fun σ H' => ∃ x x4 sm, σ = [some (.ref s), some (.ref c), some (.ref d), x, x4, some (.ref q)] ∧ Kp [s] H H' ∧ H sm = none ∧ H' s = some (.ins CF dx [("own_cutter", .ref c), ("own_texts", .ref D2), ("own_sums", .ref sm)]) ∧ H' D2 = some (.dK (dV tv rw)) ∧ H' sm = some (.tup [.int (sumW (prM bk pl) m), .int (sumW (bhM bk pl) m)]), ?_, ?_⟩
  · refine ⟨_, rfl, q, _, rfl, SqL.of q7, ?_⟩
    refine ⟨D2, _, e7, trivial, fun od => ?_⟩
    refine ⟨_, rfl, _, _, _, _, _, rfl, (upd_ne nsD).trans s7, T.cl_Shelf, T.no_Shelf_own_texts, rfl, D2, od, _, rfl, upd_same, fun D hD => ?_⟩
    obtain ⟨hD1, nDd⟩ := none_of_upd hD
    refine lc_grow walk_values (fun i => .int (bhM bk pl (rw[i]?.getD ([], [])).2)) hD (by rw [dV_length]; omega) (fun H' kk => kk _ _ upd_same (by simp)) ?_ ?_
    · rintro i x Ha Hb Nx hi kk ⟨eB, ⟨key, hkv⟩⟩ done
      subst eB
      obtain ⟨hi2, rfl⟩ := val hi hkv
      have htx := okr.tx _ (List.getElem_mem hi2)
      obtain ⟨dxc, ab, oo, tb, en, sz, rw0, la, ns, ca⟩ := cut (kfr kk)
      refine ⟨rfl, _, rfl, c, dxc, _, rfl, ca.ha, rfl, _, rfl, c, bk, pl, _, rfl, ⟨dxc, ab, oo, tb, en, sz, rw0, la, ns, ca⟩, htx.1, htx.2, fun v H2 k2 hv => ?_⟩
      have dn := done H2 k2
      rw [List.getElem?_eq_getElem hi2] at dn
      have ev : cost bk (cutM pl rw[i].2) - v = bhM bk pl rw[i].2 := by
        unfold bhM prM
        rw [ch_of ca.hb.g hv]
      rw [ev]
      exact dn
    · intro H2 k2 hDd
      rw [dV_length, map_range (l := rw) (fun p => V.int (bhM bk pl p.2))] at hDd
      have hD8 : upd H2 D2 (.dK (dV tv rw)) D = some (.lst ((rw.map fun p => bhM bk pl p.2).map V.int)) := by
        rw [upd_ne nDd, hDd, List.map_map]
        rfl
      have k8 := k7.trans ((kun k2).any [s])
      have s8 := kun k2 _ _ s7 (by simp)
      have e8 : upd H2 D2 (.dK (dV tv rw)) D2 = some (.dK (dV tv rw)) := upd_same
      refine ⟨k2 _ _ upd_same (by simp), D, _, rfl, SqL.of hD8, by show 2 ≤ sizeLine; omega, fun sm hsm => ?_⟩
      generalize upd H2 D2 (.dK (dV tv rw)) = H8 at k8 s8 e8 hD8 hsm
      have nsm := ne_of_none s8 hsm
      have hsmf : H sm = none := k8.free hsm (by simpa using nsm.symm)
      refine ⟨_, rfl, s, CF, dx, _, rfl, by rw [upd_ne nsm]; exact s8, T.cl_Shelf, T.no_Shelf_own_sums, by simp, x7, x74, sm, rfl, (k8.up (.inl hsmf)).up (.inr (by simp)), hsmf, upd_same, ?_, ?_⟩
      · rw [upd_ne nsD.symm, upd_ne (ne_of_none e8 hsm)]; exact e8
      · rw [upd_ne nsm.symm, upd_same, ← sumW_perm _ pr, ← sumW_perm _ pr]
        rfl
  rintro σ' H8 ⟨x8, x84, sm, rfl, k8, hsmf, s8, e8, m8⟩
  clear kfr kun k7 s7 e7 q7
  have nsm : s ≠ sm := ne_of s8 m8 (fun z => nomatch z)
  -- own_done
  refine ⟨fun σ H' => ∃ ld, σ = [some (.ref s), some (.ref c), some (.ref d), x8, x84, some (.ref q)] ∧ Kp [s] H H' ∧ H ld = none ∧ H' s = some (.ins CF dx [("own_cutter", .ref c), ("own_texts", .ref D2), ("own_sums", .ref sm), ("own_done", .ref ld)]) ∧ H' D2 = some (.dK (dV tv rw)) ∧ H' sm = some (.tup [.int (sumW (prM bk pl) m), .int (sumW (bhM bk pl) m)]) ∧ H' ld = some (.lst []), ?_, ?_⟩
  · refine ⟨by show 0 ≤ sizeLine; omega, fun p hp => ?_⟩
    have nsp := ne_of_none s8 hp
    refine ⟨_, rfl, s, CF, dx, _, rfl, by rw [upd_ne nsp]; exact s8, T.cl_Shelf, T.no_Shelf_own_done, by simp, p, rfl, (k8.up (.inl (k8.free hp (by simpa using nsp.symm)))).up (.inr (by simp)), k8.free hp (by simpa using nsp.symm), upd_same, ?_, ?_, ?_⟩
    · rw [upd_ne nsD.symm, upd_ne (ne_of_none e8 hp)]; exact e8
    · rw [upd_ne nsm.symm, upd_ne (ne_of_none m8 hp)]; exact m8
    · rw [upd_ne nsp.symm, upd_same]
  rintro σ' H9 ⟨ld, rfl, k9, hldf, s9, e9, m9, l9⟩
  clear k8 s8 e8 m8
  have nsl : s ≠ ld := ne_of s9 l9 (fun z => nomatch z)
  refine ⟨fun σ H' => ∃ lu, σ = [some (.ref s), some (.ref c), some (.ref d), x8, x84, some (.ref q)] ∧ Kp [s] H H' ∧ H lu = none ∧ ld ≠ lu ∧ H' s = some (.ins CF dx [("own_cutter", .ref c), ("own_texts", .ref D2), ("own_sums", .ref sm), ("own_done", .ref ld), ("own_undone", .ref lu)]) ∧ H' D2 = some (.dK (dV tv rw)) ∧ H' sm = some (.tup [.int (sumW (prM bk pl) m), .int (sumW (bhM bk pl) m)]) ∧ H' ld = some (.lst []) ∧ H' lu = some (.lst []), ?_, ?_⟩
  · refine ⟨by show 0 ≤ sizeLine; omega, fun p hp => ?_⟩
    have nsp := ne_of_none s9 hp
    refine ⟨_, rfl, s, CF, dx, _, rfl, by rw [upd_ne nsp]; exact s9, T.cl_Shelf, T.no_Shelf_own_undone, by simp, p, rfl, (k9.up (.inl (k9.free hp (by simpa using nsp.symm)))).up (.inr (by simp)), k9.free hp (by simpa using nsp.symm), ne_of_none l9 hp, upd_same, ?_, ?_, ?_, ?_⟩
    · rw [upd_ne nsD.symm, upd_ne (ne_of_none e9 hp)]; exact e9
    · rw [upd_ne nsm.symm, upd_ne (ne_of_none m9 hp)]; exact m9
    · rw [upd_ne nsl.symm, upd_ne (ne_of_none l9 hp)]; exact l9
    · rw [upd_ne nsp.symm, upd_same]
  rintro σ' H10 ⟨lu, rfl, k10, hluf, nlu, s10, e10, m10, l10, u10⟩
  clear k9 s9 e9 m9 l9
  have nsu : s ≠ lu := ne_of s10 u10 (fun z => nomatch z)
  refine ⟨fun σ H' => σ = [some (.ref s), some (.ref c), some (.ref d), x8, x84, some (.ref q)] ∧ Kp [s] H H' ∧ H' s = some (.ins CF dx [("own_cutter", .ref c), ("own_texts", .ref D2), ("own_sums", .ref sm), ("own_done", .ref ld), ("own_undone", .ref lu), ("own_block", .non)]) ∧ H' D2 = some (.dK (dV tv rw)) ∧ H' sm = some (.tup [.int (sumW (prM bk pl) m), .int (sumW (bhM bk pl) m)]) ∧ H' ld = some (.lst []) ∧ H' lu = some (.lst []), ?_, ?_⟩
  · exact ⟨_, rfl, s, CF, dx, _, rfl, s10, T.cl_Shelf, T.no_Shelf_own_block, by simp, rfl, k10.up (.inr (by simp)), upd_same, (upd_ne nsD.symm).trans e10, (upd_ne nsm.symm).trans m10, (upd_ne nsl.symm).trans l10, (upd_ne nsu.symm).trans u10⟩
  rintro σ' H11 ⟨rfl, k11, s11, e11, m11, l11, u11⟩
  clear k10 s10 e10 m10 l10 u10
  refine ⟨fun σ H' => σ = [some (.ref s), some (.ref c), some (.ref d), x8, x84, some (.ref q)] ∧ Kp [s] H H' ∧ H' s = some (.ins CF dx [("own_cutter", .ref c), ("own_texts", .ref D2), ("own_sums", .ref sm), ("own_done", .ref ld), ("own_undone", .ref lu), ("own_block", .non), ("own_entry", .non)]) ∧ H' D2 = some (.dK (dV tv rw)) ∧ H' sm = some (.tup [.int (sumW (prM bk pl) m), .int (sumW (bhM bk pl) m)]) ∧ H' ld = some (.lst []) ∧ H' lu = some (.lst []), ?_, ?_⟩
  · exact ⟨_, rfl, s, CF, dx, _, rfl, s11, T.cl_Shelf, T.no_Shelf_own_entry, by simp, rfl, k11.up (.inr (by simp)), upd_same, (upd_ne nsD.symm).trans e11, (upd_ne nsm.symm).trans m11, (upd_ne nsl.symm).trans l11, (upd_ne nsu.symm).trans u11⟩
  rintro σ' H12 ⟨rfl, k12, s12, e12, m12, l12, u12⟩
  clear k11 s11 e11 m11 l11 u11
  refine ⟨by show 0 ≤ sizeLine; omega, fun lw hlw => ?_⟩
  have nsw := ne_of_none s12 hlw
  have hlwf : H lw = none := k12.free hlw (by simpa using nsw.symm)
  have ndw := ne_of_none l12 hlw
  have nuw := ne_of_none u12 hlw
  refine ⟨_, rfl, s, CF, dx, _, rfl, by rw [upd_ne nsw]; exact s12, T.cl_Shelf, T.no_Shelf_own_watchers, by simp, ?_⟩
  have kE : Kp [s] H (upd (upd H12 lw (.lst [])) s (ShO CF dx c D2 sm ld lu lw)) := (k12.up (.inl hlwf)).up (.inr (by simp))
  refine k _ [s, ld, lu, lw] ⟨dx, c, D2, sm, ld, lu, lw, rw, [], [], rfl, upd_same, cut kE, ?_, pr, so, hok, ?_, ?_, ?_, ?_, .nil, .nil, nlu, ndw, nuw, by simp, by simp⟩ ?_ kE
  · rw [upd_ne nsD.symm, upd_ne (ne_of_none e12 hlw)]; exact e12
  · rw [upd_ne nsm.symm, upd_ne (ne_of_none m12 hlw)]; exact m12
  · rw [upd_ne nsl.symm, upd_ne ndw]; exact l12
  · rw [upd_ne nsu.symm, upd_ne nuw]; exact u12
  · rw [upd_ne nsw.symm, upd_same]; rfl
  · intro x hx
    simp only [List.mem_cons, List.not_mem_nil, or_false] at hx
    rcases hx with z | z | z | z <;> rw [z]
    · exact .inl rfl
    · exact .inr hldf
    · exact .inr hluf
    · exact .inr hlwf
end
end K75
-- part W16
set_option Elab.async false
set_option linter.all false
set_option maxRecDepth 100000
set_option maxHeartbeats 4000000
namespace K75
open PySem PySem.Spec PyProof.Rows L2
section
variable {X : Cx} {C : Addr} {sp : Sp} {k j : Nat}
/-- str(a) by the class's own method -/
def rStrO (C : Addr) (sp : Sp) : List V → Hp → VK → Prop := fun xs H Q => ∃ a dx fs, xs = [.ref a] ∧ H a = some (.ins C dx fs) ∧ sp [.ref a] H (fun v H' => ∃ t : Str, v = .str t ∧ Q (.str t) H') E0
theorem cr_strO (c : Spc X.prog X.w X.K X.mg X.base k C "__str__" sp) (hr : Room j X.A) (hk : k + 2 ≤ j) : CallR X (.type "str") (rStrO C sp) := by
  intro pins s σ H xs us Q I r h
  obtain ⟨a, dx, fs, rfl, ha, h⟩ := h
  obtain rfl := Vals.ref1 r
  obtain ⟨f, hs, hf, F⟩ := c
  obtain ⟨ox, od, J⟩ := ins_at I ha
  have hr2 : Room k X.A.in1.in1 := ((hr.mono hk).in1).in1
  refine PySem.W.kso_call (hr2.units0) I.kIn J hs hf (wpAny_call (codeAny_mono (F X.A.in1.in1 X.stack s H [.ref a] [.ref a] _ E0 hr2 I.env0.in1.in1 (.cons rfl .nil) h) fun r s' hq => ?_))
  cases r with
  | error e => exact pass0 pins σ H s e s' I hq
  | ok fl =>
    cases fl with
    | ret u =>
      obtain ⟨v, H', I', rv, t, rfl, q⟩ := I.after hq
      obtain ⟨tk, rfl⟩ := rv
      exact ⟨.str t, H', I', ⟨_, rfl⟩, q⟩
    | next => exact False.elim hq
    | brk => exact False.elim hq
    | cont => exact False.elim hq
end
section
variable {P : Program} {w : World} {K : PySem.W.Frag} {mg : Str → Option Value} {base : Heap} {CB CC CF : Addr}
theorem len_Shelf : ∀ (vs : List V) (H : Hp) (Q : VK) (E : XK), sp_Shelf CB CC CF vs H Q E → vs.length = (["self", "cutter", "texts"] : List Str).length := by
  intro vs H Q E h
  obtain ⟨s, dx, c, tx, bk, pl, m, rfl, _⟩ := h
  rfl
theorem mks_pos (T : Ty K mg CB CC CF) : C8.Mak P w K mg base 6 "Shelf" CF (sp_Shelf CB CC CF) [.non] := by
  obtain ⟨f, fd, h1, F, h2⟩ := T.i_Shelf
  obtain ⟨ds, hv, hb⟩ := F.binds0 (ps := ["self", "cutter", "texts"]) 2 (by simp) rfl (fun D doc pm an cdv ct us ks l1 l2 => by
    match us, ks, l1, l2 with
    | [x, y], [u], _, _ => exact ⟨_, _, _, _, _, _, rfl, rfl, rfl⟩)
  exact ⟨f, fd, _, ds, h1, fnOk_of F sc_p_Shelf___init__ len_Shelf (b_Shelf T), h2, hb, hv⟩
theorem mks_full (T : Ty K mg CB CC CF) : ∃ f fd, Mk K CF f ∧ FnOk P w K mg base CX0 6 f fd ["self", "cutter", "texts"] (sp_Shelf CB CC CF) ∧ mg "Shelf" = some (.ref CF) ∧
    ∃ (g : List Value → List Value → List Value), KBn K fd ["self", "cutter", "texts"] 2 ["texts"] g (fun vs zs => vs ++ zs) := by
  obtain ⟨f, fd, h1, F, h2⟩ := T.i_Shelf
  refine ⟨f, fd, h1, fnOk_of F sc_p_Shelf___init__ len_Shelf (b_Shelf T), h2, ?_⟩
  obtain ⟨mv, h⟩ := F.kbinds0 (ps := ["self", "cutter", "texts"]) 2 ["texts"] [] (fun us _ ws => us ++ ws) (by simp) (fun q hq => by cases hq) (fun a _ c => a.append c) (fun D doc pm an cdv ct us mv ws l1 l2 l3 => by
    match us, mv, ws, l1, l2, l3 with
    | [x, y], [], [u], _, _, _ => exact (rfl : _ = _))
  exact ⟨_, h⟩
def sp_watch (CB CC CF : Addr) : Sp := fun vs H Q _ => ∃ (s : Addr) (bk : Bk) (pl : Pl) (rows : Tb) (dn ud : List Chg) (fp ms : List Addr) (f : Addr) (L : LF), vs = [.ref s, .ref f] ∧ ShelfH CB CC CF (hid ms H) s bk pl rows dn ud [] fp ∧ H f = some (LamO f L) ∧
  ∀ H', ShelfH CB CC CF (hid ms H') s bk pl rows dn ud [f] fp → Kp fp H H' → Q .non H'
theorem c_Shelf_watch (T : Ty K mg CB CC CF) : C8.Met P w K mg base 2 CF "watch" (sp_watch CB CC CF) [] := by
  refine met_of T.m_Shelf_watch T.cl_Shelf sc_p_Shelf_watch (fun _ _ _ _ _ _ us hl => match us, hl with | [_, _], _ => rfl) (fun vs H Q E h => ?_) (fun cdv A outer f s0 H vs Q E hr h => ?_)
  · obtain ⟨s, bk, pl, rows, dn, ud, fp, ms, f, L, rfl, _⟩ := h
    rfl
  · obtain ⟨s, bk, pl, rows, dn, ud, fp, ms, fn, L, rfl, ⟨dx, c, tx, sm, ld, lu, lw, rw, ds, us, rfl, sh⟩, hf, k⟩ := h
    have h3 : sizeLine = 16777216 := sizeLine_eq
    refine ⟨_, (pss_cons (ps_expr (C8.pe_c (c_p_require_call T) hr (by decide) (by rfl) (pa_cons (pv 1) pa_nil)))
  (pss_one (ps_expr (pe_bm PySem.F.plainAttrs_list PySem.F.slot_list_append PySem.F.type_list_append mt_append (pe_fldK (K := K) rfl (pv 0)) (pa_cons (pv 1) pa_nil))))), ?_⟩
    refine ⟨_, rfl, fn, L, rfl, hf, fun H1 hk1 => ?_⟩
    have a1 := sh.kp0 (hid_kp hk1 fun x hx => by cases hx)
    have nlm : lw ∉ ms := (hid_some a1.hw).1
    have hw1 := (hid_some a1.hw).2
    refine ⟨_, rfl, _, _, _, _, _, rfl, (hid_some a1.hs).2, T.cl_Shelf, T.no_Shelf_own_watchers, rfl, .inl ⟨rfl, _, SqL.of hw1⟩, _, rfl, lw, [], .ref fn, rfl, rfl, hw1, by show 0 < sizeLine; omega, ?_⟩
    have kE1 : Kp [lw] H1 (upd H1 lw (.lst ([] ++ [.ref fn]))) := (kp_refl H1).up (.inr (by simp))
    have kE : Kp [lw] (hid ms H1) (hid ms (upd H1 lw (.lst ([] ++ [.ref fn])))) := hid_kp kE1 fun x hx => .inl hx
    have vE : VolAt CF (hid ms H1) [lw] := fun x hx => by
      rw [List.mem_singleton.mp hx]
      exact ⟨_, a1.hw, .inl ⟨_, rfl⟩⟩
    have nls : s ≠ lw := ne_of a1.hs a1.hw (fun z => nomatch z)
    refine k _ ⟨dx, c, tx, sm, ld, lu, lw, rw, ds, us, rfl, ⟨kE _ _ a1.hs (by simpa using nls), a1.hc.kp kE vE T.n_BF T.n_CF, kE.vol vE a1.ht nv_dK, a1.pr, a1.so, a1.ok, kE.vol vE a1.hm nv_tup, kE _ _ a1.hd (by simpa using a1.n2), kE _ _ a1.hu (by simpa using a1.n3), by rw [hid_out nlm, upd_same]; rfl, a1.ed.kp kE vE, a1.eu.kp kE vE, a1.n1, a1.n2, a1.n3, a1.dl, by simp⟩⟩ ?_
    exact (hk1.any _).trans (kE1.sub (by simp))
/-! ### == and str -/
theorem dict_perm' {m n : Tb} (p : m.Perm n) (nd : (n.map (·.1)).Nodup) : ∀ q ∈ dV tv m, valV (dV tv n) q.1 = some q.2 ∧ flatB q.2 = true := dict_perm p nd (fun _ => rfl)
def sp_ShelfE (CB CC CF : Addr) : Sp := fun vs H Q _ => ∃ (a b : Addr) (bk bl : Bk) (pl pm : Pl) (rs ms : Tb) (d1 u1 d2 u2 : List Chg) (w1 w2 f1 f2 : List Addr) (z : Bool), vs = [.ref a, .ref b] ∧ ShelfH CB CC CF H a bk pl rs d1 u1 w1 f1 ∧ ShelfH CB CC CF H b bl pm ms d2 u2 w2 f2 ∧
  bk.Perm bl ∧ pl.order = pm.order ∧ pl.rows = pm.rows ∧ pl.last = pm.last ∧ ((pl.span = pm.span ∧ rs.Perm ms ∧ z = true) ∨ (pl.span ≠ pm.span ∧ z = false) ∨ (pl.span = pm.span ∧ rs.length ≠ ms.length ∧ z = false)) ∧ Q (.bl z) H
theorem c_ShelfE (T : Ty K mg CB CC CF) : Spc P w K mg base 4 CF "__eq__" (sp_ShelfE CB CC CF) := by
  refine spc_of T.s_Shelf___eq__ sc_p_Shelf___eq__ (fun _ _ _ _ _ _ us hl => match us, hl with | [_, _], _ => rfl) (fun vs H Q E h => ?_) (fun cdv A outer f s H vs Q E hr h => ?_)
  · obtain ⟨a, b, bk, bl, pl, pm, rs, ms, d1, u1, d2, u2, w1, w2, f1, f2, z, rfl, _⟩ := h
    rfl
  · obtain ⟨a, b, bk, bl, pl, pm, rs, ms, d1, u1, d2, u2, w1, w2, f1, f2, z, rfl, ⟨dx, c, tx, sm, ld, lu, lw, rw, ds, us, rfl, x⟩, ⟨dx2, c2, tx2, sm2, ld2, lu2, lw2, rw2, ds2, us2, rfl, y⟩, hp, e1, e2, e3, hz, q⟩ := h
    refine ⟨_, (pss_cons (ps_if (PW.pt (pw_or (pt_not (pt_val (pe_callB (cr_isC T.is_Shelf) (by rfl) T.n_isinstance (by decide +kernel) (pa_cons (pv 1) (pa_cons (pe_glob (v := .ref CF) (by rfl) T.g_Shelf rfl) pa_nil))))) (pw_or1 (pt_cmpR op_ne (C8.pe_mt0 (c_Shelf_most_behind T) hr (by decide) (pv 0)) (C8.pe_mt0 (c_Shelf_most_behind T) hr (by decide) (pv 1)) (nomark _)))))
    (pss_one (ps_ret pe_bl))
    pss_nil)
  (pss_one (ps_ret (pe_and (pe_cmpR (op_eqO (c_CutterE T) hr (by decide)) (pe_fldK (K := K) rfl (pv 0)) (pe_fldK (K := K) rfl (pv 1)) (nomark _)) (pe_one (pe_cmpR (op_eq_dictB hr.units0) (pe_fldK (K := K) rfl (pv 0)) (pe_fldK (K := K) rfl (pv 1)) (nomark _))))))), ?_⟩
    refine ⟨_, rfl, b, dx2, _, rfl, y.hs, _, rfl, ?_⟩
    refine ⟨_, rfl, a, dx, _, rfl, x.hs, rfl, a, dx, _, rfl, x.hs, _, rfl, b, dx2, _, rfl, y.hs, rfl, b, dx2, _, rfl, y.hs, rfl, _, rfl, ?_⟩
    obtain ⟨dxc, ab, oo, tb, en, sz, rw0, la, ns, ca⟩ := x.hc
    obtain ⟨dxc2, ab2, oo2, tb2, en2, sz2, rw02, la2, ns2, ca2⟩ := y.hc
    refine ⟨_, rfl, _, _, _, _, _, rfl, x.hs, T.cl_Shelf, T.no_Shelf_own_cutter, rfl, _, rfl, _, _, _, _, _, rfl, y.hs, T.cl_Shelf, T.no_Shelf_own_cutter, rfl, c, c2, dxc, dxc2, _, _, rfl, rfl, ca.ha, ca2.ha, c, c2, bk, bl, pl, pm, rfl, ⟨dxc, ab, oo, tb, en, sz, rw0, la, ns, ca⟩, ⟨dxc2, ab2, oo2, tb2, en2, sz2, rw02, la2, ns2, ca2⟩, hp, e1, e2, e3, _, rfl, _, rfl, ?_⟩
    rcases hz with ⟨h1, h2, rfl⟩ | ⟨h1, rfl⟩ | ⟨h1, h2, rfl⟩
    · rw [decide_eq_true h1]
      refine iteT' rfl ?_
      have pr : rw.Perm rw2 := x.pr.trans (h2.trans y.pr.symm)
      exact ⟨_, rfl, _, _, _, _, _, rfl, x.hs, T.cl_Shelf, T.no_Shelf_own_texts, rfl, _, rfl, _, _, _, _, _, rfl, y.hs, T.cl_Shelf, T.no_Shelf_own_texts, rfl, tx, tx2, dV tv rw, dV tv rw2, rfl, rfl, x.ht, y.ht, .inl ⟨by rw [dV_length, dV_length]; exact pr.length_eq, dict_perm' pr ((y.pr.map _).nodup_iff.mpr y.ok.nd), q⟩⟩
    · rw [decide_eq_false h1]
      exact iteF' rfl q
    · rw [decide_eq_true h1]
      refine iteT' rfl ?_
      exact ⟨_, rfl, _, _, _, _, _, rfl, x.hs, T.cl_Shelf, T.no_Shelf_own_texts, rfl, _, rfl, _, _, _, _, _, rfl, y.hs, T.cl_Shelf, T.no_Shelf_own_texts, rfl, tx, tx2, dV tv rw, dV tv rw2, rfl, rfl, x.ht, y.ht, .inr ⟨by rw [dV_length, dV_length, x.pr.length_eq, y.pr.length_eq]; exact h2, q⟩⟩
theorem cost_le {bk : Bk} (g : GoodBook bk) : ∀ ps : List Tx0, (∀ p ∈ ps, p ∈ pcs bk) → 0 ≤ cost bk ps ∧ cost bk ps ≤ 99 * (ps.length : Int)
  | [], _ => ⟨Int.le_refl _, Int.le_refl _⟩
  | p :: ps, h => by
    obtain ⟨i1, i2⟩ := cost_le g ps fun q hq => h q (List.mem_cons_of_mem _ hq)
    obtain ⟨n, hn⟩ := getA_pcs g (h p (List.mem_cons_self ..))
    have hm := g.pr _ (getA_some hn)
    have e : cost bk (p :: ps) = n + cost bk ps := by
      unfold cost
      rw [List.map_cons, List.sum_cons, hn]
      rfl
    rw [e, List.length_cons]
    have h1 : 1 ≤ n := hm.1
    have h2 : n ≤ 99 := hm.2
    push_cast
    constructor <;> omega
theorem pr_le {bk : Bk} {pl : Pl} (g : GoodBook bk) (gp : GoodPl bk pl) {t : Tx0} (h : Ov bk t) (hl : t.length ≤ 8000) : 0 ≤ prM bk pl t ∧ prM bk pl t ≤ 792000 := by
  have h1 := cost_le g (cutM pl t) (cut_ok g gp t.length t (Nat.le_refl _) h).1
  have h2 := cut_len g gp h
  unfold prM
  constructor <;> omega
theorem sum_le {f : Tx0 → Int} {b : Int} : ∀ m : Tb, (∀ p ∈ m, 0 ≤ f p.2 ∧ f p.2 ≤ b) → 0 ≤ sumW f m ∧ sumW f m ≤ b * (m.length : Int)
  | [], _ => ⟨Int.le_refl _, by show (0 : Int) ≤ b * 0; omega⟩
  | p :: m, h => by
    obtain ⟨i1, i2⟩ := sum_le m fun q hq => h q (List.mem_cons_of_mem _ hq)
    obtain ⟨h1, h2⟩ := h p (List.mem_cons_self ..)
    have e : sumW f (p :: m) = f p.2 + sumW f m := by
      unfold sumW
      rw [List.map_cons, List.sum_cons]
    rw [e, List.length_cons]
    push_cast
    rw [Int.mul_add]
    constructor <;> omega
theorem tot_le {bk : Bk} {pl : Pl} {m : Tb} (g : GoodBook bk) (gp : GoodPl bk pl) (ok : RowsOk bk m) : 0 ≤ sumW (prM bk pl) m ∧ sumW (prM bk pl) m ≤ 39600000 := by
  obtain ⟨h1, h2⟩ := sum_le (f := prM bk pl) (b := 792000) m fun p hp => pr_le g gp (ok.tx p hp).1 (ok.tx p hp).2
  have := ok.le
  exact ⟨h1, by omega⟩
theorem log_of {i : Int} (h0 : 0 ≤ i) (h1 : i ≤ 39600000) : i.natAbs.log2 < 1920 := by
  by_cases h : i.natAbs = 0
  · rw [h]; decide
  · rw [Nat.log2_lt h]
    refine Nat.lt_of_le_of_lt (show i.natAbs ≤ 39600000 by omega) (Nat.lt_of_lt_of_le (show 39600000 < 2 ^ 26 by decide) (Nat.pow_le_pow_right (by decide) (by decide)))
theorem its_len {i : Int} (h : i.natAbs.log2 < 1920) : (Str.ofString (toString i)).length ≤ 1921 := by
  have := int_text_length_le (k := 1920) (by decide) h
  rw [PySem.ofString_length]
  omega
/-- what str(shelf) says -/
def strM (n : Int) (t : Int) : Str := (((Str.empty ++ "shelf of ") ++ (toString n)) ++ " texts for ") ++ (toString t)
def sp_str (CB CC CF : Addr) : Sp := fun vs H Q _ => ∃ (s : Addr) (bk : Bk) (pl : Pl) (rows : Tb) (dn ud : List Chg) (wf fp : List Addr), vs = [.ref s] ∧ ShelfH CB CC CF H s bk pl rows dn ud wf fp ∧ Q (.str (strM rows.length (sumW (prM bk pl) rows))) H
theorem c_Shelf_str (T : Ty K mg CB CC CF) : Spc P w K mg base 1 CF "__str__" (sp_str CB CC CF) := by
  refine spc_of T.s_Shelf___str__ sc_p_Shelf___str__ (fun _ _ _ _ _ _ us hl => match us, hl with | [_], _ => rfl) (fun vs H Q E h => ?_) (fun cdv A outer f s H vs Q E hr h => ?_)
  · obtain ⟨s, bk, pl, rows, dn, ud, wf, fp, rfl, _⟩ := h
    rfl
  · obtain ⟨s, bk, pl, rows, dn, ud, wf, fp, rfl, ⟨dx, c, tx, sm, ld, lu, lw, rw, ds, us, rfl, a⟩, q⟩ := h
    have h3 : sizeLine = 16777216 := sizeLine_eq
    refine ⟨_, (pss_one (ps_ret (pe_joined (.cons pe_str (.cons (pe_fmt (pe_callB call_lenD (by rfl) T.n_len (by decide +kernel) (pa_cons (pe_fldK (K := K) rfl (pv 0)) pa_nil))) (.cons pe_str (.cons (pe_fmt (pe_ix (ix_tupK (K := K) rfl) (pe_fldK (K := K) rfl (pv 0)) pe_int (fun _ _ => rfl))) .nil))))))), ?_⟩
    have ht := tot_le a.hc.g a.hc.gp a.ok
    have hle := a.ok.le
    have l1 := log_of (i := (rows.length : Int)) (by omega) (by omega)
    have l2 := log_of ht.1 ht.2
    have b1 := its_len l1
    have b2 := its_len l2
    have la : (Str.empty ++ Str.ofString "shelf of ").length = 9 := by decide
    have lb : (Str.ofString " texts for ").length = 11 := by decide
    refine ⟨_, rfl, ?_, ?_⟩
    · show (Str.empty ++ Str.ofString "shelf of ").length ≤ _
      rw [la]; omega
    refine ⟨_, rfl, _, _, _, _, _, rfl, a.hs, T.cl_Shelf, T.no_Shelf_own_texts, rfl, tx, dV tv rw, rfl, a.ht, ?_⟩
    rw [dV_length, a.pr.length_eq]
    refine .inr ⟨_, rfl, l1, _, rfl, ?_, ?_⟩
    · show ((Str.empty ++ Str.ofString "shelf of ") ++ Str.ofString (toString (rows.length : Int))).length ≤ _
      rw [Str.length_append, la]; omega
    refine ⟨_, rfl, ?_, ?_⟩
    · show (((Str.empty ++ Str.ofString "shelf of ") ++ Str.ofString (toString (rows.length : Int))) ++ Str.ofString " texts for ").length ≤ _
      rw [Str.length_append, Str.length_append, la, lb]; omega
    refine ⟨_, rfl, _, _, _, _, _, rfl, a.hs, T.cl_Shelf, T.no_Shelf_own_sums, rfl, sm, _, 0, _, rfl, rfl, SqT.of a.hm, rfl, ?_⟩
    refine .inr ⟨_, rfl, l2, _, rfl, ?_, q⟩
    show ((((Str.empty ++ Str.ofString "shelf of ") ++ Str.ofString (toString (rows.length : Int))) ++ Str.ofString " texts for ") ++ Str.ofString (toString (sumW (prM bk pl) rows))).length ≤ _
    rw [Str.length_append, Str.length_append, Str.length_append, la, lb]; omega
end
end K75
-- part T1
set_option Elab.async false
set_option linter.all false
set_option maxRecDepth 100000
set_option maxHeartbeats 4000000
namespace K75
open PySem PySem.Spec PyProof.Rows L2
/-- min(e, key = len), e a list of texts -/
def tMinLen (K : PySem.W.Frag) (te : TE) : TE := fun σ H Q => te σ H fun v H1 => ∃ (a : Addr) (ts : List Tx0), v = .ref a ∧ SqL K H1 a (ts.map tv) ∧ ts ≠ [] ∧ (∀ t ∈ ts, t.length ≤ sizeLine) ∧ ∀ t ∈ ts, (∀ u ∈ ts, t.length ≤ u.length) → Q (tv t) H1
theorem pe_minLen {X : Cx} {e : Expr} {te : TE} {p p1 kpos pos : Pos} (hc : X.calm = true) (hg : Gl X "min") (hms : X.mg "min" = none) (hgl : Gl X "len") (hml : X.mg "len" = none) (ha : PE X e te)
    (he0 : starEach [e] X.env = (false, eval e X.env) :: starEach [] X.env := by rfl)
    (he : backTo pos (starEach [e] X.env) = (false, eval e X.env) :: backTo pos (starEach [] X.env) := by rfl) (hpl : (backTo pos (starEach [e] X.env)).any (·.1) = false := by rfl) :
    PE X (.Call (.Name "min" p) [e] [⟨some "key", .Name "len" p1, kpos⟩] pos) (tMinLen X.K te) := by
  refine ⟨fun pins s σ H Q I h => ?_⟩
  refine wpAny_Call_Name_kw (ld_blt I hg hms (u := .builtin "min") rfl ?_)
  refine PyProof.Rows.callWith_kw (PyProof.Rows.args_cons (thn (ha.run pins s σ H _ I h) fun u s1 ⟨v, H1, I1, r1, a, ts, e1, hs, hne, hz, q⟩ => PyProof.Rows.args_nil ?_) he0) he hpl rfl rfl
  subst e1
  cases r1
  show wpAny _ _ (evalAll ((do let v ← eval (.Name "len" p1) X.env; standAt pos; pure v) :: [])) _ _ s1
  refine wpAny_evalAll_cons (wpAny_bind (ld_blt I1 hgl hml (u := .builtin "len") rfl (wpAny_bind (wpAny_standAt (wpAny_pure (wpAny_evalAll_nil ?_))))))
  obtain ⟨its, rv, hl, hzz⟩ := I1.list hs
  have hlen := rv.length
  rw [List.length_map] at hlen
  obtain ⟨m, F⟩ := I1.fr
  have hpos : 0 < its.toArray.toList.length := by
    have := List.length_pos_iff.mpr hne
    simp
    omega
  have each := each_tx rv
  have get : ∀ {i : Nat} {v : Value}, its[i]? = some v → ∃ (h : i < ts.length) (k : Tok), v = .str (SX.S ts[i]) k := fun {i v} hv => by
    have hi : i < its.length := (List.getElem?_eq_some_iff.mp hv).1
    have hi2 : i < ts.length := by omega
    obtain ⟨u, hu, ru⟩ := rv.get (i := i) (x := tv ts[i]) (by rw [List.getElem?_map, List.getElem?_eq_getElem hi2]; rfl)
    rw [hv] at hu
    cases hu
    obtain ⟨k, hk⟩ := ru
    exact ⟨hi2, k, hk⟩
  obtain ⟨oa, hoa, rest⟩ := (show ∃ oa, s1.heap.get? a = some oa ∧ True from by
    obtain ⟨o, ho, _⟩ := hl.isList
    exact ⟨o, ho, trivial⟩)
  have lists : ∀ h : Heap, Fr X.base X.env.locals h m → News X.base X.env.locals h (allNews X.base s1.heap X.env.locals) → h.IsList a its.toArray := fun h F' N' => by
    obtain ⟨o, ho, x1, x2⟩ := hl.isList
    refine ⟨o, ?_, x1, x2⟩
    cases eb : X.base.get? a with
    | some o2 =>
      have := (I1.bs a o2 eb).1
      rw [ho] at this
      cases this
      exact F'.keep a _ eb
    | none =>
      refine (N' (a, o) (mem_allNews ?_ eb ho)).1
      rintro rfl
      obtain ⟨m', ⟨o', es, ep, ho', hd', _⟩, _⟩ := I1.loc
      rw [ho] at ho'
      cases ho'
      obtain ⟨ne, hd⟩ := x2
      rw [hd'] at hd
      cases hd
  refine kmb_min (vs := its) (fun i => (((ts[i]?).getD []).length : Int)) (I1.ok.hd hc) F news_all lists (by rw [← hlen]; exact List.length_pos_iff.mpr hne) (fun i v hv h tk own F' N' => ?_) (fun i v h' tk' hv hb F' N' => ?_)
  · obtain ⟨hi2, k, rfl⟩ := get hv
    have hle := hz _ (List.getElem_mem hi2)
    have h3 : sizeLine = 16777216 := sizeLine_eq
    refine len_str (by rw [SX.S_len]; omega) ?_
    rw [SX.S_len]
    have e2 : ((ts[i]?).getD []).length = ts[i].length := by rw [List.getElem?_eq_getElem hi2]; rfl
    refine ⟨h, tk + 1 + 1, tk + 1, rfl, ?_, F', N'⟩
    rw [e2]
  · obtain ⟨hi2, k, rfl⟩ := get hv
    have I2 : Inv X pins σ H1 { s1 with heap := h', toks := tk' } := by
      have kp : ∀ b o, b ≠ X.env.locals → s1.heap.get? b = some o → h'.get? b = some o := fun b o hb e => by
        cases eb : X.base.get? b with
        | some o2 =>
          have := (I1.bs b o2 eb).1
          rw [e] at this
          cases this
          exact F'.keep b _ eb
        | none => exact (N' (b, o) (mem_allNews hb eb e)).1
      have nl : ∀ b o, H1 b = some o → b ≠ X.env.locals := fun b o e z => by
        rw [z, I1.free] at e
        cases e
      obtain ⟨oL, esL, epL, hoL, _⟩ := F'.ns
      refine I1.step (g' := s1.gens) (d' := s1.drawn) (ch := []) (fun b hb => absurd hb (by simp)) (fun b o hb _ _ e _ => kp b o hb e) (fun b o hb _ _ e _ => ⟨o.slots, kp b o hb e⟩) (fun b o _ _ n => n) (fun b o _ e => ?_) (fun b xs e => e) (fun b o u e => e) (fun b ps e => ⟨#[], by rw [e]; simp⟩) (fun m' hm => ?_) (fun b o e => ?_) I1.bare
      · by_cases hb : b = X.env.locals
        · rw [hb]; exact ⟨_, hoL⟩
        · exact ⟨o, kp b o hb e⟩
      · have em := hm.eq_nsMap.trans (F.ns.eq_nsMap).symm
        rw [em]
        exact F'.ns
      · refine (I1.hok b o e).stay (fun d v hd q => kp d v ?_ q) (fun d q => q) (fun d xs q => q)
        rcases hd with z | z
        · rw [z]; exact nl b o e
        · exact nl d _ z
    refine ⟨tv ts[i], H1, I2, ⟨_, rfl⟩, q _ (List.getElem_mem hi2) fun u hu => ?_⟩
    obtain ⟨j, hj, rfl⟩ := List.getElem_of_mem hu
    have h1 := (hb j (by omega)).1
    simp only [List.getElem?_eq_getElem hi2, List.getElem?_eq_getElem hj, Option.getD_some] at h1
    omega
end K75
-- part T2
set_option Elab.async false
set_option linter.all false
set_option maxRecDepth 100000
set_option maxHeartbeats 4000000
namespace K75
open PySem PySem.Spec PyProof.Rows L2
theorem find_range {α : Type} {f : Nat → Option α} {v : α} : ∀ (n a k : Nat), a ≤ k → k < a + n → f k = some v → (∀ j, a ≤ j → j < k → f j = none) → (List.range' a n).findSome? f = some v
  | 0, a, k, h1, h2, _, _ => by omega
  | n + 1, a, k, h1, h2, hv, hn => by
    rw [List.range'_succ, List.findSome?_cons]
    by_cases e : a = k
    · subst e
      rw [hv]
    · rw [hn a (Nat.le_refl _) (by omega)]
      exact find_range n (a + 1) k (by omega) (by omega) hv fun j h3 h4 => hn j (by omega) h4
theorem find_none {α : Type} {f : Nat → Option α} : ∀ (n a : Nat), (∀ j, a ≤ j → j < a + n → f j = none) → (List.range' a n).findSome? f = none
  | 0, _, _ => rfl
  | n + 1, a, h => by
    rw [List.range'_succ, List.findSome?_cons, h a (Nat.le_refl _) (by omega)]
    exact find_none n (a + 1) fun j h1 h2 => h j (by omega) (by omega)
/-- the rows that begin the window -/
def fits (m : Tb) (w : Tx0) : Tb := m.filter fun p => beg p.1 w
theorem row_hit {bk : Bk} {n : Nat} {m : Tb} (g : GoodTb bk n m) {w : Tx0} {p : Tx0 × Tx0} (hp : p ∈ fits m w) (hb : ∀ q ∈ fits m w, p.1.length ≤ q.1.length) : firstRow m w (List.range' 1 w.length) = some p.2 := by
  obtain ⟨hm, hw⟩ := List.mem_filter.mp hp
  have hl := g.ln p hm
  have hlw := beg_len hw
  have ew := of_decide_eq_true hw
  refine find_range w.length 1 p.1.length hl.1 (by omega) ?_ fun j h1 h2 => ?_
  · have e : w.take p.1.length = p.1 := ew.symm
    show getA m (w.take p.1.length) = some p.2
    rw [e]
    exact getA_mem g.nd hm
  · cases e : getA m (w.take j) with
    | none => rfl
    | some v =>
      have hq := getA_some e
      have hjl : (w.take j).length = j := by rw [List.length_take]; omega
      have := hb (w.take j, v) (List.mem_filter.mpr ⟨hq, decide_eq_true (by rw [hjl])⟩)
      have h3 : (w.take j, v).1.length = j := hjl
      omega
theorem row_none {m : Tb} {w : Tx0} (h : fits m w = []) : firstRow m w (List.range' 1 w.length) = none := by
  refine find_none w.length 1 fun j h1 h2 => ?_
  cases e : getA m (w.take j) with
  | none => rfl
  | some v =>
    have hq := getA_some e
    have hjl : (w.take j).length = j := by rw [List.length_take]; omega
    have : (w.take j, v) ∈ fits m w := List.mem_filter.mpr ⟨hq, decide_eq_true (by rw [hjl])⟩
    rw [h] at this
    cases this
theorem comp_keysL {β : Type} {f : β → V} {td : TE} {g : TG} {tt : TT} {te : TE} {vs : List Nat} {σ : L2.St} {H : Hp} {d : Addr} {Q : VK} (m : List (Tx0 × β)) (c : Tx0 × β → Bool) (e : Tx0 × β → V)
    (ht : ∀ od R, R (.ref d) (upd H d (.frz od (.dK (dV f m)))) → td σ (upd H d (.frz od (.dK (dV f m)))) R) (hd : H d = some (.dK (dV f m))) (hz : m.length ≤ 10000)
    (hs : ∀ od D, H D = none → D ≠ d → ∀ p ∈ m, ∀ acc (Nx : Hp → Prop), acc.length < sizeLine → (c p = true → Nx (upd (upd H d (.frz od (.dK (dV f m)))) D (.lst (acc ++ [e p])))) → (c p = false → Nx (upd (upd H d (.frz od (.dK (dV f m)))) D (.lst acc))) →
      g (tv p.1) (wipe σ vs) (upd (upd H d (.frz od (.dK (dV f m)))) D (.lst acc)) fun σ2 H2 => wipe σ2 vs = wipe σ vs ∧ tt σ2 H2 fun b H3 =>
        if b = true then te σ2 H3 fun y H4 => ∃ acc, H4 D = some (.lst acc) ∧ acc.length < sizeLine ∧ Nx (upd H4 D (.lst (acc ++ [y]))) else Nx H3)
    (hq : ∀ D, H D = none → Q (.ref D) (upd H D (.lst ((m.filter c).map e)))) : tLockE (tLc (iKeys td) g tt te vs) σ H Q := by
  have h3 : sizeLine = 16777216 := sizeLine_eq
  refine ⟨d, _, hd, trivial, fun od => ht od _ ⟨d, od, rfl, .inl ⟨_, upd_same, fun D hD => ?_⟩⟩⟩
  have hne : D ≠ d := by
    rintro rfl
    rw [upd_same] at hD
    cases hD
  have hD0 : H D = none := by rw [upd_ne hne] at hD; exact hD
  refine lc_pure m (fun p => tv p.1) c e (G := fun H => H d = some (.frz od (.dK (dV f m)))) ?_ (fun acc => by rw [upd_ne hne.symm, upd_same]) (by omega) (hs od D hD0 hne) ?_
  · have := (walk_keys (d := d) (o := od) (kvs := dV f m)).mono (G' := fun H => H d = some (.frz od (.dK (dV f m)))) (Y' := fun i H x H' => H' = H ∧ ∃ a, m[i]? = some a ∧ x = tv a.1) (fun _ h => h) fun i H x H' _ _ y => ⟨y.1, by
      obtain ⟨_, k, v, h1, h2⟩ := y
      unfold dV at h1
      rw [List.getElem?_map] at h1
      obtain ⟨b, h3, h4⟩ := Option.map_eq_some_iff.mp h1
      cases h4
      exact ⟨b, h3, h2⟩⟩
    rw [dV_length] at this
    exact this
  · refine ⟨by rw [upd_ne hne.symm, upd_same], ?_⟩
    rw [upd_lock hd hne]
    exact hq D hD0
section
variable {P : Program} {w : World} {K : PySem.W.Frag} {mg : Str → Option Value} {base : Heap} {CB CC CF : Addr}
def sp_tell : Sp := fun vs H Q _ => ∃ (q d o tb en : Addr) (bk : Bk) (pl : Pl) (t : Tx0) (b : Bool), vs = [.ref q, tv t, .bl b] ∧ GoodBook bk ∧ PlanH H q d o tb en bk pl ∧ GoodPl bk pl ∧ Ov bk t ∧ t ≠ [] ∧ t.length ≤ 10000 ∧ ∀ H', Kp [] H H' → Q (tv (tellM pl t b)) H'
theorem c_tell (T : Ty K mg CB CC CF) : C8.Cal P w K mg base 1 "_law_tell" sp_tell [] := by
  refine cal_of T.d_tell sc_tell (fun _ _ _ _ _ _ us hl => match us, hl with | [_, _, _], _ => rfl) (fun vs H Q E h => ?_) (fun cdv A outer f s H vs Q E hr h => ?_)
  · obtain ⟨q, d, o, tb, en, bk, pl, t, b, rfl, _⟩ := h
    rfl
  · obtain ⟨q, d, o, tb, en, bk, pl, t, b, rfl, g, hp, gp, ho, hne, htl, k⟩ := h
    have h3 : sizeLine = 16777216 := sizeLine_eq
    refine ⟨_, (C8.pss_cut (ps_if (PW.pt (pw_and (pt_val (pv 2)) (pw_and1 (pt_cmp (pc_din (hu1 hr) (pv 1) (pe_dget (hu1 hr) (pv 0) pe_str (fun _ _ => rfl)))))))
    (pss_one (ps_ret (pe_dget (hu1 hr) (pe_dget (hu1 hr) (pv 0) pe_str (fun _ _ => rfl)) (pv 1) (fun _ _ => rfl))))
    pss_nil)
  (pss_cons (ps_lock (ps_setLc (i := 3) (own := [("text", 4)]) (g := gName 4) rfl sc_tell.nd rfl rfl (sw_true rfl rfl rfl (by decide +kernel)) (pi_keys (pe_dget (hu1 hr) (pv 0) pe_str (fun _ _ => rfl))) (blkOk_by (own := [("text", 4)]) (N := N_tell) (sc := (defScope s_tell)) (by decide +kernel)) (fun _ _ _ _ _ => (pg_name (i := 4) sc_tell.nd rfl (Or.inl rfl))) (fun _ _ _ _ _ => (pts_one (pt_cmpR op_eq (pe_slice sl_tx (pv 1) po_none (po_some (pe_callB call_lenT (by rfl) T.n_len (by decide +kernel) (pa_cons (pv 4) pa_nil)))) (pv 4) (nomark _)))) (fun _ _ _ _ _ => (pv 4))))
  (pss_cons (ps_if (pt_cmpR (op_neD hr.units) (pv 3) (pe_lst pa_nil) (nomark _))
    (pss_one (ps_ret (pe_dget (hu1 hr) (pe_dget (hu1 hr) (pv 0) pe_str (fun _ _ => rfl)) (pe_minLen rfl (by rfl) T.n_min (by rfl) T.n_len (pv 3)) (fun _ _ => rfl))))
    pss_nil)
  (pss_one (ps_ret (pe_ix (ix_listK (K := K) rfl) (pe_lc (own := [("piece", 5)]) (g := gName 5) rfl sc_tell.nd (pi_tup (pe_dget (hu1 hr) (pv 0) pe_str (fun _ _ => rfl))) (blkOk_by (own := [("piece", 5)]) (N := N_tell) (sc := (defScope s_tell)) (by decide +kernel)) (fun _ _ _ _ _ => (pg_name (i := 5) sc_tell.nd rfl (Or.inl rfl))) (fun _ _ _ _ _ => (pts_one (pt_cmpR op_eq (pe_slice sl_tx (pv 1) po_none (po_some (pe_callB call_lenT (by rfl) T.n_len (by decide +kernel) (pa_cons (pv 5) pa_nil)))) (pv 5) (nomark _)))) (fun _ _ _ _ _ => (pv 5))) pe_int (fun _ _ => rfl))))))), ?_⟩
    refine ⟨fun σ' H' => σ' = [some (.ref q), some (tv t), some (.bl b), none, none, none] ∧ H = H' ∧ (if b = true then getA pl.last t else none) = none, ?_, ?_⟩
    · refine ⟨_, rfl, _, rfl, ite2 (fun hb => ⟨_, rfl, _, rfl, _, _, rfl, hp.g_ends, _, _, rfl, dget_A hp.he t, _, rfl, ?_⟩) (fun hb => ⟨rfl, rfl, if_neg hb⟩)⟩
      cases e : getA pl.last t with
      | none =>
        refine ⟨rfl, rfl, ?_⟩
        rw [if_pos hb]
      | some p =>
        refine iteT' rfl ?_
        refine ⟨_, rfl, _, _, rfl, hp.g_ends, _, rfl, en, tv p, rfl, dget_S hp.he e, ?_⟩
        have e2 : tellM pl t b = p := by
          unfold tellM
          rw [if_pos hb, e]
        rw [← e2]
        exact k H (kp_refl H)
    rintro σ' H' ⟨rfl, rfl, hn⟩
    have hml := gp.rw.le
    have kl : ∀ p ∈ pl.rows, p.1.length ≤ 2000 := fun p hp => Nat.le_trans (gp.rw.ln p hp).2 gp.s2
    have nqt : q ≠ tb := by
      rintro rfl
      have e := hp.hq.symm.trans hp.ht
      have e2 := HO.dK.inj (Option.some.inj e)
      cases hr0 : pl.rows with
      | nil => rw [hr0] at e2; cases e2
      | cons p m =>
        rw [hr0] at e2
        have e3 := (List.cons.inj e2).1
        have e4 := congrArg Prod.snd e3
        cases e4
    refine comp_keysL pl.rows (fun p => beg p.1 t) (fun p => tv p.1) (fun od R h => ?_) hp.ht (by omega) ?_ ?_
    · exact ⟨_, rfl, _, _, rfl, .inl ⟨_, .inr "table", .inl ((upd_ne nqt).trans hp.hq), rfl, rfl⟩, h⟩
    · intro od D hD hneD p hpr acc Nx hz h1 h2
      have := kl p hpr
      refine ⟨rfl, _, rfl, _, rfl, _, rfl, by omega, _, rfl, _, rfl, by omega, .inl ⟨rfl, p.1.length, rfl, ?_⟩⟩
      refine ⟨_, rfl, rfl, _, rfl, ite2 (fun hc => ?_) (fun hc => ?_)⟩
      · exact ⟨_, rfl, acc, upd_same, hz, by rw [upd_upd]; exact h1 (decide_eq_true (SX.S_inj (V.str.inj (of_decide_eq_true hc))).symm)⟩
      · refine h2 (decide_eq_false fun e => ?_)
        rw [decide_eq_true (by rw [← e])] at hc
        exact hc rfl
    intro D hD
    have kD : Kp [] H (upd H D (.lst ((pl.rows.filter fun p => beg p.1 t).map fun p => tv p.1))) := (kp_refl H).up (.inl hD)
    have hDD : upd H D (.lst ((pl.rows.filter fun p => beg p.1 t).map fun p => tv p.1)) D = some (.lst (((fits pl.rows t).map (·.1)).map tv)) := by
      rw [upd_same, List.map_map]
      rfl
    generalize upd H D (.lst ((pl.rows.filter fun p => beg p.1 t).map fun p => tv p.1)) = H1 at kD hDD
    have hp1 := hp.kp0 kD
    have hlt : ∀ u ∈ (fits pl.rows t).map (·.1), Lt u := fun u hu => by
      obtain ⟨p, hp, rfl⟩ := List.mem_map.mp hu
      exact ov_lt g (gp.rw.ov p (List.mem_filter.mp hp).1)
    refine ⟨_, rfl, by show 0 ≤ sizeLine; omega, fun p2 hp2 => ?_⟩
    have k2 : Kp [] H1 (upd H1 p2 (.lst [])) := (kp_refl H1).up (.inl hp2)
    have hD2 := k2 _ _ hDD (by simp)
    refine ⟨.list (dTx ((fits pl.rows t).map (·.1))), .list [], .lst (SqL.of hD2) (texts_dp _), .lst (SqL.of upd_same) (texts_dp []), shp_list hlt, shp_list (ts := []) (by simp), _, rfl, ?_⟩
    generalize upd H1 p2 (.lst []) = H2 at k2 hD2
    have hp2' := hp1.kp0 k2
    have kk := kD.trans k2
    cases ef : fits pl.rows t with
    | cons p m =>
      refine iteT' rfl ?_
      have hmem : ∀ u, u ∈ (fits pl.rows t).map (·.1) → u.length ≤ sizeLine := fun u hu => by
        obtain ⟨p, hp, rfl⟩ := List.mem_map.mp hu
        have := kl p (List.mem_filter.mp hp).1
        omega
      refine ⟨_, rfl, _, _, rfl, hp2'.g_table, _, rfl, D, (fits pl.rows t).map (·.1), rfl, SqL.of hD2, by rw [ef]; simp, hmem, fun u hu hmin => ?_⟩
      obtain ⟨p3, hp3, rfl⟩ := List.mem_map.mp hu
      refine ⟨tb, tv p3.2, rfl, dget_S hp2'.ht (getA_mem gp.rw.nd (List.mem_filter.mp hp3).1), ?_⟩
      have e2 : tellM pl t b = p3.2 := by
        unfold tellM
        rw [hn, row_hit gp.rw hp3 (fun q hq => hmin q.1 (List.mem_map_of_mem hq))]
      rw [← e2]
      exact k H2 kk
    | nil =>
      refine iteF' rfl ?_
      have hol := gp.od.length_eq
      rw [List.length_map] at hol
      have h12 := g.le
      refine ⟨_, rfl, _, _, rfl, hp2'.g_order, o, rfl, ⟨_, SqT.of hp2'.ho⟩, fun D3 hD3 => ?_⟩
      have noD := ne_of_none hp2'.ho hD3
      refine comp_tup pl.order tv (fun p => beg p t) tv (fun acc => SqT.of (by rw [upd_ne noD]; exact hp2'.ho)) (by omega) ?_ ?_
      · intro u hu acc Nx hz h1 h2
        have := (pcs_len g (gp.od.mem_iff.mp hu)).2
        refine ⟨rfl, _, rfl, _, rfl, _, rfl, by omega, _, rfl, _, rfl, by omega, .inl ⟨rfl, u.length, rfl, ?_⟩⟩
        refine ⟨_, rfl, rfl, _, rfl, ite2 (fun hc => ?_) (fun hc => ?_)⟩
        · exact ⟨_, rfl, acc, upd_same, hz, by rw [upd_upd]; exact h1 (decide_eq_true (SX.S_inj (V.str.inj (of_decide_eq_true hc))).symm)⟩
        · refine h2 (decide_eq_false fun e => ?_)
          rw [decide_eq_true (by rw [← e])] at hc
          exact hc rfl
      obtain ⟨p5, hp5, _, _⟩ := head_pieces gp.od ho hne
      have e2 : tellM pl t b = p5 := by
        unfold tellM
        rw [hn, row_none ef, hp5]
        rfl
      refine ⟨D3, _, 0, tv p5, rfl, rfl, SqL.of upd_same, ?_, ?_⟩
      · cases ef2 : pl.order.filter (fun p => beg p t) with
        | nil => rw [ef2] at hp5; cases hp5
        | cons x l =>
          rw [ef2] at hp5
          cases hp5
          exact atI_nat rfl
      · rw [← e2]
        exact k _ (kk.up (.inl (kk.free hD3 (by simp))))
end
end K75
-- part T3
set_option Elab.async false
set_option linter.all false
set_option maxRecDepth 100000
set_option maxHeartbeats 4000000
namespace K75
open PySem PySem.Spec PyProof.Rows L2
section
variable {P : Program} {w : World} {K : PySem.W.Frag} {mg : Str → Option Value} {base : Heap} {CB CC CF : Addr}
def sp_lcut : Sp := fun vs H Q _ => ∃ (q d o tb en : Addr) (bk : Bk) (pl : Pl) (t : Tx0), vs = [.ref q, tv t] ∧ GoodBook bk ∧ PlanH H q d o tb en bk pl ∧ GoodPl bk pl ∧ Ov bk t ∧ t.length ≤ 8000 ∧
  ∀ (f : Addr) (H' : Hp), H f = none → Kp [] H H' → H' f = some (.lst ((cutM pl t).map tv)) → Q (.ref f) H'
theorem c_cut (T : Ty K mg CB CC CF) : C8.Cal P w K mg base 2 "_law_cut" sp_lcut [] := by
  refine cal_of T.d_cut sc_cut (fun _ _ _ _ _ _ us hl => match us, hl with | [_, _], _ => rfl) (fun vs H Q E h => ?_) (fun cdv A outer fa s H vs Q E hr h => ?_)
  · obtain ⟨q, d, o, tb, en, bk, pl, t, rfl, _⟩ := h
    rfl
  · obtain ⟨q, d, o, tb, en, bk, pl, t, rfl, g, hp, gp, ho, htl, k⟩ := h
    have h3 : sizeLine = 16777216 := sizeLine_eq
    have hlt : t.length ≤ sizeLine := by omega
    refine ⟨_, (pss_cons (ps_par (i := 2) (j := 3) (by rfl) sc_cut.nd rfl rfl (by decide) rfl rfl (pa_cons (pe_lst pa_nil) (pa_cons pe_int pa_nil)) (by rfl))
  (pss_cons (ps_while PassesOwn.never (pt_cmpR op_lt (pv 3) (pe_callB call_lenT (by rfl) T.n_len (by decide +kernel) (pa_cons (pv 1) pa_nil)) (nomark _))
    (pss_cons (ps_set (i := 4) sc_cut.nd rfl (Or.inl rfl) (pe_slice sl_tx (pv 1) (po_some (pv 3)) (po_some (pe_op op_add (pv 3) (pe_dget (hu1 hr) (pv 0) pe_str (fun _ _ => rfl))))))
    (pss_cons (ps_expr (pe_bm PySem.F.plainAttrs_list PySem.F.slot_list_append PySem.F.type_list_append mt_append (pv 2) (pa_cons (C8.pe_c (c_tell T) hr (by decide) (by rfl) (pa_cons (pv 0) (pa_cons (pv 4) (pa_cons (pe_cmpR op_lt (pe_callB call_lenT (by rfl) T.n_len (by decide +kernel) (pa_cons (pv 4) pa_nil)) (pe_dget (hu1 hr) (pv 0) pe_str (fun _ _ => rfl)) (nomark _)) pa_nil)))) pa_nil)))
    (pss_one (ps_set (i := 3) sc_cut.nd rfl (Or.inl rfl) (pe_op op_add (pv 3) (pe_callB call_lenT (by rfl) T.n_len (by decide +kernel) (pa_cons (pe_ix (ix_listK (K := K) rfl) (pv 2) (pe_un un_neg pe_int) (fun _ _ => rfl)) pa_nil))))))))
  (pss_one (ps_ret (pv 2))))), ?_⟩
    have hs1 := gp.s1
    have hs2 := gp.s2
    refine ⟨by show 0 ≤ sizeLine; omega, fun f hf => ⟨_, _, rfl, ?_⟩⟩
    refine while_by (fun σ H' => ∃ (fs : List Tx0) (n : Nat) (x : Option V), σ = [some (.ref q), some (tv t), some (.ref f), some (.int n), x] ∧ fs ++ cutM pl (t.drop n) = cutM pl t ∧ n ≤ t.length ∧ fs.length ≤ n ∧ Kp [] H H' ∧ H' f = some (.lst (fs.map tv)))
      (fun σ _ => t.length - sint σ 3) ⟨[], 0, none, rfl, rfl, Nat.zero_le _, Nat.le_refl _, (kp_refl H).up (.inl hf), upd_same⟩ ?_ ?_
    · rintro σ H1 ⟨fs, n, x, rfl, hcm, hn, hl, hk, hf1⟩
      have c1 := hp.kp0 hk
      refine ⟨_, rfl, _, rfl, _, rfl, hlt, _, _, rfl, rfl, _, rfl, ?_⟩
      refine ite2 (fun hb => ?_) (fun hb => ?_)
      · have hnl : n < t.length := by
          have := of_decide_eq_true hb
          omega
        have hor := ov_drop ho n
        have hne : t.drop n ≠ [] := by
          intro e
          have := congrArg List.length e
          rw [List.length_drop] at this
          simp at this
          omega
        refine ⟨_, rfl, _, rfl, _, rfl, _, rfl, _, rfl, _, _, rfl, c1.g_view, _, _, rfl, rfl, _, rfl, _, rfl, hlt, .inr (.inr ⟨n, n + pl.span, rfl, by rw [Int.natCast_add], ?_⟩)⟩
        rw [show n + pl.span - n = pl.span by omega]
        have hwl : ((t.drop n).take pl.span).length ≤ 8000 := by
          rw [List.length_take, List.length_drop]
          omega
        refine ⟨_, rfl, .inl ⟨rfl, _, SqL.of hf1⟩, _, rfl, _, rfl, _, rfl, _, rfl, by omega, _, rfl, _, _, rfl, c1.g_view, _, _, rfl, rfl, ?_⟩
        refine ⟨q, d, o, tb, en, bk, pl, (t.drop n).take pl.span, _, rfl, g, c1, gp, ov_take hor _, take_ne hs1 hne, by omega, fun H2 hk2 => ?_⟩
        have hf2 := hk2 _ _ hf1 (by simp)
        have eb : decide ((((t.drop n).take pl.span).length : Int) < (pl.span : Int)) = decide (((t.drop n).take pl.span).length < pl.span) := by
          rw [decide_eq_decide]
          omega
        rw [eb]
        have ec := cutM_cons g gp hor hne rfl
        have ln := tell_len g gp (ov_take hor pl.span) (take_ne hs1 hne) (decide (((t.drop n).take pl.span).length < pl.span))
        generalize tellM pl ((t.drop n).take pl.span) (decide (((t.drop n).take pl.span).length < pl.span)) = p at ec ln
        have ln2 := ln.2
        rw [List.length_take, List.length_drop] at ln2
        refine ⟨f, _, _, rfl, rfl, hf2, ?_, ?_⟩
        · rw [List.length_map]
          omega
        refine ⟨_, rfl, _, rfl, _, rfl, _, _, _, tv p, rfl, rfl, SqL.of upd_same, atI_end _ _, _, rfl, by omega, _, _, rfl, rfl, ?_⟩
        refine ⟨⟨fs ++ [p], n + p.length, _, by rw [Int.natCast_add]; rfl, ?_, by omega, ?_, ?_, ?_⟩, ?_⟩
        · rw [← hcm, ec, List.append_assoc, List.drop_drop]
          rfl
        · rw [List.length_append, List.length_singleton]
          omega
        · exact (hk.trans hk2).up (.inl hf)
        · rw [upd_same, List.map_append]
          rfl
        · show t.length - ((n : Int) + (p.length : Int)).toNat < t.length - (n : Int).toNat
          omega
      · have hnl : n = t.length := by
          have : ¬ ((n : Int) < (t.length : Int)) := fun z => hb (decide_eq_true z)
          omega
        rw [hnl, List.drop_length, cutM_nil, List.append_nil] at hcm
        rw [hcm] at hf1
        exact ⟨_, rfl, k f H1 hf hk hf1⟩
    · intro σ H Q Q' hQ h
      obtain ⟨z1, z2, z3, z4, z5, z6, z7, z8, z9, z10, z11, z12, b, q⟩ := h
      exact ⟨z1, z2, z3, z4, z5, z6, z7, z8, z9, z10, z11, z12, b, hQ _ _ q⟩
def sp_lprice : Sp := fun vs H Q _ => ∃ (q d o tb en : Addr) (bk : Bk) (pl : Pl) (t : Tx0), vs = [.ref q, tv t] ∧ GoodBook bk ∧ PlanH H q d o tb en bk pl ∧ GoodPl bk pl ∧ Ov bk t ∧ t.length ≤ 8000 ∧ ∀ H', Kp [] H H' → Q (.int (prM bk pl t)) H'
theorem c_price (T : Ty K mg CB CC CF) : C8.Cal P w K mg base 3 "_law_price" sp_lprice [] := by
  refine cal_of T.d_price sc_price (fun _ _ _ _ _ _ us hl => match us, hl with | [_, _], _ => rfl) (fun vs H Q E h => ?_) (fun cdv A outer fa s H vs Q E hr h => ?_)
  · obtain ⟨q, d, o, tb, en, bk, pl, t, rfl, _⟩ := h
    rfl
  · obtain ⟨q, d, o, tb, en, bk, pl, t, rfl, g, hp, gp, ho, htl, k⟩ := h
    have h3 : sizeLine = 16777216 := sizeLine_eq
    refine ⟨_, (pss_one (ps_ret (pe_callB (cr_sum rfl) (by rfl) T.n_sum (by decide +kernel) (pa_cons (pe_lc (own := [("piece", 2)]) (g := gName 2) rfl sc_price.nd (pi_list (C8.pe_c (c_cut T) hr (by decide) (by rfl) (pa_cons (pv 0) (pa_cons (pv 1) pa_nil)))) (blkOk_by (own := [("piece", 2)]) (N := N_price) (sc := (defScope s_price)) (by decide +kernel)) (fun _ _ _ _ _ => (pg_name (i := 2) sc_price.nd rfl (Or.inl rfl))) (fun _ _ _ _ _ => pts_nil) (fun _ _ _ _ _ => (pe_dget (hu1 hr) (pe_dget (hu1 hr) (pv 0) pe_str (fun _ _ => rfl)) (pv 2) (fun _ _ => rfl)))) pa_nil)))), ?_⟩
    refine ⟨_, rfl, _, rfl, q, d, o, tb, en, bk, pl, t, rfl, g, hp, gp, ho, htl, fun f1 H1 hf hk hf1 => ?_⟩
    have cl := cut_len g gp ho
    refine ⟨f1, rfl, ⟨_, SqL.of hf1⟩, fun D hD => ?_⟩
    have hfD := ne_of_none hf1 hD
    have kD : ∀ acc, Kp [] H1 (upd H1 D (.lst acc)) := fun acc => (kp_refl H1).up (.inl hD)
    refine comp_list (cutM pl t) tv (fun _ => true) (fun p => .int ((getA bk p).getD 0)) (fun acc => SqL.of (by rw [upd_ne hfD]; exact hf1)) (by omega) ?_ ?_
    · intro p hp0 acc Nx hz h1 h2
      obtain ⟨n, hn⟩ := getA_pcs g ((cut_ok g gp t.length t (Nat.le_refl _) ho).1 p hp0)
      have c2 := (hp.kp0 hk).kp0 (kD acc)
      refine ⟨rfl, _, rfl, _, _, rfl, c2.g_prices, _, rfl, d, .int n, rfl, dget_S c2.hd hn, acc, upd_same, hz, ?_⟩
      rw [upd_upd]
      have := h1 rfl
      rw [hn] at this
      exact this
    · refine ⟨D, (cutM pl t).map fun p => (getA bk p).getD 0, rfl, SqL.of ?_, ?_⟩
      · rw [upd_same, List.filter_eq_self.mpr fun _ _ => rfl]
        simp only [List.map_map]
        rfl
      · exact k _ (hk.up (.inl (hk.free hD (by simp))))
def sp_shelf_plan (T : List (Addr × Str)) : Sp := fun vs H Q _ => ∃ r : Addr, vs = [.ref r] ∧ Reel H r ∧ LamX.Tabs T H ∧
  ∀ (q d o tb en : Addr) (bk : Bk) (pl : Pl) (H' : Hp), GoodBook bk → GoodPl bk pl → pl.span ≤ 9 → PlanH H' q d o tb en bk pl → KpN [r] H H' → Reel H' r → LamX.Tabs T H' → Q (.ref q) H'
theorem c_shelf_plan (T : Ty K mg CB CC CF) {c PT : Addr} {Ts : List (Addr × Str)} (F : DefC K mg "_law_plan" s_plan c) (TB : LamX.TabB base mg c PT) (hm0 : (PT, lamQ "_law_plan") ∈ Ts) (hu0 : ∀ p ∈ Ts, p.1 = PT → p.2 = lamQ "_law_plan") : C8.Cal P w K mg base 6 "_law_shelf_plan" (sp_shelf_plan Ts) [] := by
  refine cal_of T.d_shelf_plan sc_shelf_plan (fun _ _ _ _ _ _ us hl => match us, hl with | [_], _ => rfl) (fun vs H Q E h => ?_) (fun cdv A outer f s H vs Q E hr h => ?_)
  · obtain ⟨r, rfl, _⟩ := h
    rfl
  · obtain ⟨r, rfl, hR, hT, k⟩ := h
    have h3 : sizeLine = 16777216 := sizeLine_eq
    refine ⟨_, (pss_cons (ps_set (i := 1) sc_shelf_plan.nd rfl (Or.inl rfl) (C8.pe_c (c_signs T.toTx) hr (by decide) (by rfl) (pa_cons (pv 0) (pa_cons (pe_op op_add pe_int (C8.pe_c (c_spin T.toTx) hr (by decide) (by rfl) (pa_cons (pv 0) (pa_cons pe_int pa_nil)))) pa_nil))))
  (pss_cons (ps_set (i := 2) sc_shelf_plan.nd rfl (Or.inl rfl) (C8.pe_c (c_pick T.toTx) hr (by decide) (by rfl) (pa_cons (pv 0) (pa_cons (pe_lst (pa_cons pe_int (pa_cons pe_int (pa_cons pe_int pa_nil)))) pa_nil))))
  (pss_cons (ps_set (i := 3) sc_shelf_plan.nd rfl (Or.inl rfl) (C8.pe_c (c_prices T.toTx) hr (by decide) (by rfl) (pa_cons (pv 0) (pa_cons (pv 1) (pa_cons (C8.pe_c (c_spin T.toTx) hr (by decide) (by rfl) (pa_cons (pv 0) (pa_cons pe_int pa_nil))) (pa_cons pe_int (pa_cons (pv 2) pa_nil)))))))
  (pss_one (ps_ret (C8.pe_c (c_plan T.toTx F TB hm0 hu0) hr (by decide) (by rfl) (pa_cons (pv 0) (pa_cons (pv 3) (pa_cons pe_int pa_nil))))))))), ?_⟩
    refine ⟨_, rfl, _, rfl, r, 3, rfl, hR, by decide, by decide, fun v x y z h0 h1 => ?_⟩
    obtain ⟨m, rfl⟩ : ∃ m : Nat, v = m := ⟨v.toNat, by omega⟩
    have k1 : Kp [r] H (upd H r (.lst [.int x, .int y, .int z])) := (kp_refl H).up (.inr (by simp))
    have hR1 : Reel (upd H r (.lst [.int x, .int y, .int z])) r := reel_same x y z
    have hT1 := tabs_lst hT k1 (reel_lst hR)
    generalize upd H r (.lst [.int x, .int y, .int z]) = H1 at k1 hR1 hT1
    refine ⟨_, _, rfl, rfl, r, 1 + m, by simp, hR1, by omega, fun l cs H2 hl hcl hnd hltc k2 hR2 hl2 => ?_⟩
    have hT2 := tabs_lst hT1 k2 (reel_lst hR1)
    have k02 := k1.trans k2
    -- top
    refine ⟨_, rfl, by show 3 ≤ sizeLine; omega, fun p hp => ?_⟩
    have nrp := hR2.ne hp
    have k3 : Kp [r] H2 (upd H2 p (.lst [.int 1, .int 3, .int 99])) := (kp_refl H2).up (.inl hp)
    have hR3 : Reel (upd H2 p (.lst [.int 1, .int 3, .int 99])) r := reel_upd hR2 nrp
    have hT3 := tabs_lst hT2 k3 (reel_lst hR2)
    have hl3 : upd H2 p (.lst [.int 1, .int 3, .int 99]) l = some (.lst (cs.map sg)) := by rw [upd_ne (ne_of_none hl2 hp)]; exact hl2
    have hp3 : upd H2 p (.lst [.int 1, .int 3, .int 99]) p = some (.lst [.int 1, .int 3, .int 99]) := upd_same
    generalize upd H2 p (.lst [.int 1, .int 3, .int 99]) = H3 at k3 hR3 hT3 hl3 hp3
    refine ⟨r, .ref p, _, rfl, hR3, .inr ⟨p, rfl, SqL.of hp3⟩, (fun e => nrp (by cases e; rfl)), by simp, by show 3 ≤ 1000; omega, fun y a b c hy => ?_⟩
    have htop : ∃ top : Int, y = .int top ∧ 1 ≤ top ∧ top ≤ 99 := by
      simp only [List.mem_cons, List.not_mem_nil, or_false] at hy
      rcases hy with e | e | e <;> subst e
      · exact ⟨1, rfl, by decide, by decide⟩
      · exact ⟨3, rfl, by decide, by decide⟩
      · exact ⟨99, rfl, by decide, by decide⟩
    obtain ⟨top, rfl, ht1, ht2⟩ := htop
    have nlr : l ≠ r := (hR1.ne hl).symm
    have k4 : Kp [r] H3 (upd H3 r (.lst [.int a, .int b, .int c])) := (kp_refl H3).up (.inr (by simp))
    have hR4 : Reel (upd H3 r (.lst [.int a, .int b, .int c])) r := reel_same a b c
    have hT4 := tabs_lst hT3 k4 (reel_lst hR3)
    have hl4 : upd H3 r (.lst [.int a, .int b, .int c]) l = some (.lst (cs.map sg)) := by rw [upd_ne nlr]; exact hl3
    generalize upd H3 r (.lst [.int a, .int b, .int c]) = H4 at k4 hR4 hT4 hl4
    refine ⟨_, rfl, _, rfl, _, rfl, r, 5, rfl, hR4, by decide, by decide, fun v2 a b c h0 h1 => ?_⟩
    obtain ⟨m2, rfl⟩ : ∃ m : Nat, v2 = m := ⟨v2.toNat, by omega⟩
    have k5 : Kp [r] H4 (upd H4 r (.lst [.int a, .int b, .int c])) := (kp_refl H4).up (.inr (by simp))
    have hR5 : Reel (upd H4 r (.lst [.int a, .int b, .int c])) r := reel_same a b c
    have hT5 := tabs_lst hT4 k5 (reel_lst hR4)
    have hl5 : upd H4 r (.lst [.int a, .int b, .int c]) l = some (.lst (cs.map sg)) := by rw [upd_ne nlr]; exact hl4
    generalize upd H4 r (.lst [.int a, .int b, .int c]) = H5 at k5 hR5 hT5 hl5
    refine ⟨_, rfl, r, l, cs, m2, top, rfl, hR5, hl5, (fun e => by rw [e] at hcl; simp at hcl; omega), by omega, hnd, hltc, by omega, ht1, ht2, fun d bk H6 hd g k6 hR6 hd6 => ?_⟩
    have hT6 := tabs_lst hT5 k6 (reel_lst hR5)
    refine ⟨_, rfl, _, rfl, r, d, bk, rfl, hR6, hT6, g, hd6, fun q o tb en pl H7 gp hs hp k7 hR7 hT7 => ?_⟩
    exact k q d o tb en bk pl H7 g gp hs hp ((((((k02.trans k3).trans k4).trans k5).trans k6).n).trans k7) hR7 hT7
end
end K75
-- part Q1
set_option Elab.async false
set_option linter.all false
set_option maxRecDepth 100000
set_option maxHeartbeats 4000000
namespace K75
open PySem PySem.Spec PyProof.Rows L2
/-! a list that nobody writes -/
def SqX (K : PySem.W.Frag) (H : Hp) (a : Addr) (xs : List V) : Prop := (∃ o, H a = some (.frz o (.lst xs))) ∨ ∀ H', SqL K H' a xs
theorem SqX.sq {K : PySem.W.Frag} {H : Hp} {a : Addr} {xs : List V} (h : SqX K H a xs) : SqL K H a xs := h.elim (fun ⟨o, e⟩ => .inl (.inr ⟨o, e⟩)) fun e => e H
theorem SqX.kp {K : PySem.W.Frag} {H H' : Hp} {a : Addr} {xs : List V} {D : List Addr} (h : SqX K H a xs) (k : Kp D H H') (hD : ∀ x ∈ D, ∀ o u, H x ≠ some (.frz o u)) : SqX K H' a xs :=
  h.elim (fun ⟨o, e⟩ => .inl ⟨o, k _ _ e fun z => hD a z _ _ e⟩) .inr
theorem SqX.kp0 {K : PySem.W.Frag} {H H' : Hp} {a : Addr} {xs : List V} (h : SqX K H a xs) (k : Kp [] H H') : SqX K H' a xs := h.kp k (fun x hx => by cases hx)
/-! the chain of states, and the changes between them -/
def ChainR (bk : Bk) (Ss : List Tb) (dn : List Chg) : Prop := Ss.length = dn.length + 1 ∧ ∀ (i : Nat) (A B : Tb) (c : Chg), Ss[i]? = some A → Ss[i + 1]? = some B → dn[i]? = some c → c.b = getA A c.n ∧ B.Perm (putR A c.n c.a) ∧ RowsOk bk A ∧ RowsOk bk B
theorem chain_nil (bk : Bk) : ChainR bk [[]] [] := ⟨rfl, fun i A B c _ _ h => by simp at h⟩
theorem chain_snoc {bk : Bk} {Ss : List Tb} {A B : Tb} {dn : List Chg} {c : Chg} (h : ChainR bk (Ss ++ [A]) dn) (h1 : c.b = getA A c.n) (h2 : B.Perm (putR A c.n c.a)) (h3 : RowsOk bk A) (h4 : RowsOk bk B) : ChainR bk (Ss ++ [A] ++ [B]) (dn ++ [c]) := by
  obtain ⟨hl, hs⟩ := h
  have hl2 : Ss.length = dn.length := by
    rw [List.length_append, List.length_singleton] at hl
    omega
  refine ⟨by rw [List.length_append, List.length_append, List.length_append, List.length_singleton, List.length_singleton, List.length_singleton]; omega, fun i X Y d hx hy hd => ?_⟩
  by_cases hi : i < dn.length
  · rw [List.getElem?_append_left (by rw [List.length_append]; omega)] at hx
    rw [List.getElem?_append_left (by rw [List.length_append, List.length_singleton]; omega)] at hy
    rw [List.getElem?_append_left hi] at hd
    exact hs i X Y d hx hy hd
  · have hi2 : i = dn.length := by
      have := (List.getElem?_eq_some_iff.mp hd).1
      rw [List.length_append, List.length_singleton] at this
      omega
    subst hi2
    rw [List.getElem?_append_left (by rw [List.length_append, List.length_singleton]; omega), List.getElem?_append_right (by omega)] at hx
    rw [List.getElem?_append_right (by rw [List.length_append, List.length_singleton]; omega)] at hy
    rw [List.getElem?_append_right (Nat.le_refl _)] at hd
    simp only [hl2, Nat.sub_self, List.getElem?_cons_zero, List.length_append, List.length_singleton] at hx hy hd
    cases hx
    cases hy
    cases hd
    exact ⟨h1, h2, h3, h4⟩
/-- the world of a walk, since H1 -/
structure WkI (CB CC CF : Addr) (H1 : Hp) (s sa l : Addr) (bl : Bk) (pl : Pl) (wo : Option Wt) (ms fp0 : List Addr) (i : Nat) (H : Hp) (fas : List Addr) (f1 : Addr) (Ss : List Tb) (S : Tb) (dn : List Chg) (am : Am) (fp : List Addr) : Prop where
  kp : Kp (fp0 ++ wms wo ++ [sa, l]) H1 H
  fr : ∀ x ∈ fp, x ∈ fp0 ∨ H1 x = none
  sh : ShelfH CB CC CF (hid ms H) s bl pl S dn [] (wfs wo) fp
  wh : WoH H wo am
  sm : H sa = some (.lst [.int (sumW (prM bl pl) S)])
  fl : H l = some (.lst ((fas ++ [f1]).map .ref))
  fd : Paired (fun a S => H a = some (.dK (dV tv S)) ∧ a ∉ ms) fas Ss
  ff : H f1 = some (.dK (dV tv S)) ∧ f1 ∉ ms
  ch : ChainR bl (Ss ++ [S]) dn
  am : am.Perm (S.map fun p => (p.1, some (bhM bl pl p.2)))
  tl : ∀ p ∈ S, p.2.length ≤ 8 * i
  dl : dn.length ≤ i
  ne : 1 ≤ i → S ≠ []
  z0 : (Ss ++ [S])[0]? = some []
section
variable {CB CC CF : Addr} {H1 H H' : Hp} {s sa l f1 : Addr} {bl : Bk} {pl : Pl} {wo : Option Wt} {ms fp0 fas fp : List Addr} {i : Nat} {Ss : List Tb} {S : Tb} {dn : List Chg} {am : Am}
theorem WkI.kp0 (h : WkI CB CC CF H1 s sa l bl pl wo ms fp0 i H fas f1 Ss S dn am fp) (k : Kp [] H H') : WkI CB CC CF H1 s sa l bl pl wo ms fp0 i H' fas f1 Ss S dn am fp :=
  ⟨h.kp.trans (k.any _), h.fr, h.sh.kp0 (hid_kp k fun x hx => by cases hx), h.wh.kp k (CF := CF) vol_nil, k _ _ h.sm (by simp), k _ _ h.fl (by simp), L2.Paired.mapP h.fd fun _ _ z => ⟨k _ _ z.1 (by simp), z.2⟩, ⟨k _ _ h.ff.1 (by simp), h.ff.2⟩, h.ch, h.am, h.tl, h.dl, h.ne, h.z0⟩
/-- an object of before, not of the shelf's own -/
theorem WkI.at (h : WkI CB CC CF H1 s sa l bl pl wo ms fp0 i H fas f1 Ss S dn am fp) {x : Addr} {o : HO} (e : H1 x = some o) (n1 : x ∉ fp0) (n2 : x ∉ wms wo) (n3 : x ≠ sa) (n4 : x ≠ l) : H x = some o := h.kp _ _ e (by simp [n1, n2, n3, n4])
theorem WkI.nfp (h : WkI CB CC CF H1 s sa l bl pl wo ms fp0 i H fas f1 Ss S dn am fp) {x : Addr} {o : HO} (e : H1 x = some o) (n1 : x ∉ fp0) : x ∉ fp := fun z => (h.fr x z).elim n1 fun q => by rw [e] at q; cases q
theorem WkI.up (h : WkI CB CC CF H1 s sa l bl pl wo ms fp0 i H fas f1 Ss S dn am fp) (n : S ≠ []) : WkI CB CC CF H1 s sa l bl pl wo ms fp0 (i + 1) H fas f1 Ss S dn am fp :=
  ⟨h.kp, h.fr, h.sh, h.wh, h.sm, h.fl, h.fd, h.ff, h.ch, h.am, fun p hp => by have := h.tl p hp; omega, by have := h.dl; omega, fun _ => n, h.z0⟩
end
theorem shin_lst {P : Program} {w : World} {K : PySem.W.Frag} {mg : Str → Option Value} {base : Heap} {CB CC CF : Addr} {H H' : Hp} {s sa : Addr} {bk : Bk} {pl : Pl} {rows : Tb} {dn ud : List Chg} {wo : Option Wt} {am : Am} {ms fp : List Addr} {xs : List V}
    (h : ShIn P w K mg base CB CC CF H s bk pl rows dn ud wo am ms fp) (k : Kp [sa] H H') (e : H sa = some (.lst xs)) (n1 : sa ∉ fp) (n2 : sa ∉ ms) (nb : CB ≠ CF) (nc : CC ≠ CF) : ShIn P w K mg base CB CC CF H' s bk pl rows dn ud wo am ms fp := by
  have v : VolAt CF H [sa] := fun x hx => by
    rw [List.mem_singleton.mp hx]
    exact ⟨_, e, .inl ⟨_, rfl⟩⟩
  have vG : VolAt CF (hid ms H) [sa] := fun x hx => by
    rw [List.mem_singleton.mp hx, hid_out n2]
    exact ⟨_, e, .inl ⟨_, rfl⟩⟩
  refine ⟨h.sh.kp (hid_kp k fun x hx => .inl hx) vG nb nc (fun x hx hn => n1 (by rw [← List.mem_singleton.mp hn]; exact hx)), h.wh.kp k v, h.wk, h.ml, fun x hx => ?_, h.al⟩
  obtain ⟨o, ho⟩ := h.mi x hx
  exact ⟨o, k _ _ ho (fun z => n2 (by rw [← List.mem_singleton.mp z]; exact hx))⟩
end K75
-- part Q2
set_option Elab.async false
set_option linter.all false
set_option maxRecDepth 100000
set_option maxHeartbeats 4000000
namespace K75
open PySem PySem.Spec PyProof.Rows L2
theorem Kp.trans' {H H1 H2 : Hp} {p : Addr} (a : Kp [] H H1) (b : Kp [p] H1 H2) (h : H p = none) : Kp [] H H2 := fun x o e _ => b x o (a x o e (by simp)) (by simpa using ne_of_none e h)
abbrev wkS (r a q s sa d sl l : Addr) (x8 x9 x10 x11 x12 x13 x14 x15 x16 x17 x18 x19 x20 x21 : Option V) : L2.St :=
  [some (.ref r), some (.ref a), some (.ref q), some (.ref s), some (.ref sa), some (.ref d), some (.ref sl), some (.ref l), x8, x9, x10, x11, x12, x13, x14, x15, x16, x17, x18, x19, x20, x21]
theorem cost_app (bk : Bk) (a b : List Tx0) : cost bk (a ++ b) = cost bk a + cost bk b := by
  unfold cost
  rw [List.map_append, List.sum_append]
theorem came_cost {bk : Bk} {o n gone came : List Tx0} (h : Came o n gone came) : cost bk n = cost bk o + cost bk came - cost bk gone := by
  obtain ⟨pre, suf, rfl, rfl⟩ := h
  rw [cost_app, cost_app, cost_app, cost_app]
  omega
theorem ov_perm {bk bl : Bk} (h : bl.Perm bk) {t : Tx0} (o : Ov bk t) : Ov bl t := fun c hc => (h.map _).mem_iff.mpr (o c hc)
theorem cost_perm {bk bl : Bk} (gl : GoodBook bl) (h : bk.Perm bl) (ps : List Tx0) : cost bk ps = cost bl ps := by
  unfold cost
  refine congrArg List.sum (List.map_congr_left fun p _ => ?_)
  rw [getA_perm h gl.nd]
theorem RowsOk.put {bk : Bk} {m : Tb} (h : RowsOk bk m) {n t : Tx0} (hn : Nm n) (ho : Ov bk t) (hl : t.length ≤ 8000) (h50 : n ∈ m.map (·.1) ∨ m.length < 50) : RowsOk bk (putR m n (some t)) := by
  refine ⟨nd_put h.nd, ?_, fun p hp => ?_, fun p hp => ?_⟩
  · rcases h50 with z | z
    · rw [len_put_old h.nd z]; exact h.le
    · have := len_put m n (some t)
      omega
  · rcases List.mem_append.mp hp with z | z
    · exact h.nm p (off_mem.mp z).1
    · rw [List.mem_singleton.mp z]; exact hn
  · rcases List.mem_append.mp hp with z | z
    · exact h.tx p (off_mem.mp z).1
    · rw [List.mem_singleton.mp z]; exact ⟨ho, hl⟩
section
variable {P : Program} {w : World} {K : PySem.W.Frag} {mg : Str → Option Value} {base : Heap} {CB CC CF : Addr}
def sp_walk (P : Program) (w : World) (K : PySem.W.Frag) (mg : Str → Option Value) (base : Heap) (CB CC CF : Addr) : Sp := fun vs H Q _ => ∃ (r a q d o tb en s sa : Addr) (ns : List Int) (bk bl : Bk) (pl : Pl) (wo : Option Wt) (ms fp : List Addr),
  vs = [.ref r, .ref a, .ref q, .ref s, .ref sa] ∧ Reel H r ∧ SqX K H a (ns.map V.int) ∧ GoodBook bk ∧ GoodPl bk pl ∧ PlanH (hid ms H) q d o tb en bk pl ∧ bl.Perm bk ∧ ShIn P w K mg base CB CC CF H s bl pl [] [] [] wo [] ms fp ∧ H sa = some (.lst [.int 0]) ∧ r ∉ fp ∧ sa ∉ fp ∧ r ≠ sa ∧ sa ∉ ms ∧
  ∀ (l : Addr) (H1 : Hp) (i : Nat) (fas : List Addr) (f1 : Addr) (Ss : List Tb) (S : Tb) (dn : List Chg) (am : Am) (fp' : List Addr) (H' : Hp), Kp [] H H1 → H l = none → (∃ xs, H1 l = some (.lst xs)) → WkI CB CC CF H1 s sa l bl pl wo ms fp i H' fas f1 Ss S dn am fp' → 1 ≤ i → i ≤ 63 → Q (.ref l) H'
theorem c_walk (T : Ty K mg CB CC CF) : C8.Cal P w K mg base 10 "_law_walk" (sp_walk P w K mg base CB CC CF) [] := by
  refine cal_of T.d_walk sc_walk (fun _ _ _ _ _ _ us hl => match us, hl with | [_, _, _, _, _], _ => rfl) (fun vs H Q E h => ?_) (fun cdv A outer fa s0 H vs Q E hr h => ?_)
  · obtain ⟨r, a, q, d, o, tb, en, s, sa, ns, bk, bl, pl, wo, ms, fp, rfl, _⟩ := h
    rfl
  · obtain ⟨r, a, q, d, o, tb, en, s, sa, ns, bk, bl, pl, wo, ms, fp0, rfl, hR, hX, g, gp, hpl, hperm, hin, hsa, nrf, nsf, nrs, nsm, k⟩ := h
    have h3 : sizeLine = 16777216 := sizeLine_eq
    refine ⟨_, (pss_cons (ps_asg (pe_tup (pa_cons (pe_dget (hu1 hr) (pv 2) pe_str (fun _ _ => rfl)) (pa_cons (C8.pe_c (c_alphabet T) hr (by decide) (by rfl) (pa_cons (pv 2) pa_nil)) (pa_cons (pe_lst (pa_cons pe_dnewK pa_nil)) pa_nil)))) (pg_tupK (K := K) (n := 3) rfl (by rfl) (pgs_cons (pg_name (i := 5) sc_walk.nd rfl (Or.inr rfl)) (pgs_cons (pg_name (i := 6) sc_walk.nd rfl (Or.inl rfl)) (pgs_cons (pg_name (i := 7) sc_walk.nd rfl (Or.inl rfl)) pgs_nil)))))
  (pss_cons (ps_for PassesOwn.never rfl (pi_range1 (by rfl) T.n_range (pa_cons (pe_callB (call_max2 rfl) (by rfl) T.n_max (by decide +kernel) (pa_cons pe_int (pa_cons (pe_callB (call_min2 rfl) (by rfl) T.n_min (by decide +kernel) (pa_cons pe_int (pa_cons (pe_callB call_len_seq (by rfl) T.n_len (by decide +kernel) (pa_cons (pv 1) pa_nil)) pa_nil))) pa_nil))) pa_nil)) (pg_name (i := 8) sc_walk.nd rfl (Or.inl rfl))
    (C8.pss_cut (ps_set (i := 9) sc_walk.nd rfl (Or.inl rfl) (pe_ifExp (pt_cmpR op_lt (pv 8) (pe_callB call_len_seq (by rfl) T.n_len (by decide +kernel) (pa_cons (pv 1) pa_nil)) (nomark _)) (pe_ix (ix_listK (K := K) rfl) (pv 1) (pv 8) (fun _ _ => rfl)) pe_int))
    (C8.pss_cut (ps_set (i := 10) sc_walk.nd rfl (Or.inl rfl) (pe_op op_mod (pe_callTy call_int1 (by rfl) T.n_int (by decide +kernel) (pa_cons (pe_callB call_abs (by rfl) T.n_abs (by decide +kernel) (pa_cons (pv 9) pa_nil)) pa_nil)) (pe_op op_pow pe_int pe_int)))
    (C8.pss_cut (ps_set (i := 11) sc_walk.nd rfl (Or.inl rfl) (pe_lst (pa_cons (pe_callB (call_max2 rfl) (by rfl) T.n_max (by decide +kernel) (pa_cons pe_int (pa_cons (pe_op op_sub (pv 10) (pe_op op_pow pe_int pe_int)) pa_nil))) (pa_cons (pe_op op_add (pe_ix (ix_listK (K := K) rfl) (pv 0) pe_int (fun _ _ => rfl)) (pv 10)) (pa_cons (pe_op op_add (pe_ix (ix_listK (K := K) rfl) (pv 0) pe_int (fun _ _ => rfl)) (pv 8)) pa_nil)))))
    (C8.pss_cut (ps_par (i := 12) (j := 13) (by rfl) sc_walk.nd rfl rfl (by decide) rfl rfl (pa_cons (C8.pe_c (c_name T) hr (by decide) (by rfl) (pa_cons (pv 11) pa_nil)) (pa_cons (C8.pe_c (c_text T.toTx) hr (by decide) (by rfl) (pa_cons (pv 11) (pa_cons (pv 6) (pa_cons (C8.pe_c (c_spin T.toTx) hr (by decide) (by rfl) (pa_cons (pv 11) (pa_cons pe_int pa_nil))) pa_nil)))) pa_nil)) (by rfl))
    (C8.pss_cut (ps_if (pt_cmp (pc_din (hu1 hr) (pv 12) (pe_ix (ix_listK (K := K) rfl) (pv 7) (pe_un un_neg pe_int) (fun _ _ => rfl))))
      (pss_cons (ps_set (i := 14) sc_walk.nd rfl (Or.inl rfl) (pe_dget (hu1 hr) (pe_ix (ix_listK (K := K) rfl) (pv 7) (pe_un un_neg pe_int) (fun _ _ => rfl)) (pv 12) (fun _ _ => rfl)))
      (pss_cons (ps_asg (C8.pe_c (c_span T) hr (by decide) (by rfl) (pa_cons (pv 11) (pa_cons (pv 14) pa_nil))) (pg_tupK (K := K) (n := 2) rfl (by rfl) (pgs_cons (pg_name (i := 15) sc_walk.nd rfl (Or.inl rfl)) (pgs_cons (pg_name (i := 16) sc_walk.nd rfl (Or.inl rfl)) pgs_nil))))
      (pss_cons (ps_asg (C8.pe_mt (c_Shelf_edit T) hr (by decide) (pv 3) (pa_cons (pv 12) (pa_cons (pv 15) (pa_cons (pv 16) (pa_cons (pv 13) pa_nil))))) (pg_tupK (K := K) (n := 3) rfl (by rfl) (pgs_cons (pg_name (i := 17) sc_walk.nd rfl (Or.inl rfl)) (pgs_cons (pg_name (i := 18) sc_walk.nd rfl (Or.inl rfl)) (pgs_cons (pg_name (i := 19) sc_walk.nd rfl (Or.inl rfl)) pgs_nil)))))
      (C8.pss_cut (ps_asg (pe_op op_add (pe_ix (ix_listK (K := K) rfl) (pv 4) pe_int (fun _ _ => rfl)) (pe_callB (cr_sum rfl) (by rfl) T.n_sum (by decide +kernel) (pa_cons (pe_lc (own := [("piece", 21)]) (g := gName 21) rfl sc_walk.nd (pi_tup (pv 19)) (blkOk_by (own := [("piece", 21)]) (N := N_walk) (sc := (defScope s_walk)) (by decide +kernel)) (fun _ _ _ _ _ => (pg_name (i := 21) sc_walk.nd rfl (Or.inl rfl))) (fun _ _ _ _ _ => pts_nil) (fun _ _ _ _ _ => (pe_dget (hu1 hr) (pv 5) (pv 21) (fun _ _ => rfl)))) pa_nil))) (pg_sub (pv 4) pe_int set_list))
      (C8.pss_cut (ps_asg (pe_op op_sub (pe_ix (ix_listK (K := K) rfl) (pv 4) pe_int (fun _ _ => rfl)) (pe_callB (cr_sum rfl) (by rfl) T.n_sum (by decide +kernel) (pa_cons (pe_lc (own := [("piece", 21)]) (g := gName 21) rfl sc_walk.nd (pi_tup (pv 18)) (blkOk_by (own := [("piece", 21)]) (N := N_walk) (sc := (defScope s_walk)) (by decide +kernel)) (fun _ _ _ _ _ => (pg_name (i := 21) sc_walk.nd rfl (Or.inl rfl))) (fun _ _ _ _ _ => pts_nil) (fun _ _ _ _ _ => (pe_dget (hu1 hr) (pv 5) (pv 21) (fun _ _ => rfl)))) pa_nil))) (pg_sub (pv 4) pe_int set_list))
      (pss_one (ps_set (i := 13) sc_walk.nd rfl (Or.inl rfl) (pe_op op_add_str (pe_op op_add_str (pe_slice sl_tx (pv 14) po_none (po_some (pv 15))) (pv 13)) (pe_slice sl_tx (pv 14) (po_some (pv 16)) po_none)))))))))
      (pss_one (ps_if (pt_cmpR op_lt (pe_callB call_lenD (by rfl) T.n_len (by decide +kernel) (pa_cons (pe_ix (ix_listK (K := K) rfl) (pv 7) (pe_un un_neg pe_int) (fun _ _ => rfl)) pa_nil)) pe_int (nomark _))
        (pss_cons (ps_asg (pe_op op_add (pe_ix (ix_listK (K := K) rfl) (pv 4) pe_int (fun _ _ => rfl)) (C8.pe_c (c_price T) hr (by decide) (by rfl) (pa_cons (pv 2) (pa_cons (pv 13) pa_nil)))) (pg_sub (pv 4) pe_int set_list))
        (pss_one (ps_expr (C8.pe_mt (c_Shelf_put T) hr (by decide) (pv 3) (pa_cons (pv 12) (pa_cons (pv 13) pa_nil))))))
        pss_nil)))
    (pss_cons (ps_set (i := 20) sc_walk.nd rfl (Or.inl rfl) (pe_callTy cr_dictD (by rfl) T.n_dict (by decide +kernel) (pa_cons (pe_ix (ix_listK (K := K) rfl) (pv 7) (pe_un un_neg pe_int) (fun _ _ => rfl)) pa_nil)))
    (pss_one (ps_if (PW.pt (pw_or (pt_cmp (pc_din (hu1 hr) (pv 12) (pv 20))) (pw_or1 (pt_cmpR op_lt (pe_callB call_lenD (by rfl) T.n_len (by decide +kernel) (pa_cons (pv 20) pa_nil)) pe_int (nomark _)))))
      (pss_cons (ps_dput (hu1 hr) (pv 20) (pv 12) (pv 13) rfl)
      (pss_one (ps_expr (pe_bm PySem.F.plainAttrs_list PySem.F.slot_list_append PySem.F.type_list_append mt_append (pv 7) (pa_cons (pv 20) pa_nil)))))
      pss_nil)))))))))
  (pss_one (ps_ret (pv 7))))), ?_⟩
    have hp := hpl.kp0 (hid_sub ms H)
    refine ⟨_, rfl, _, _, rfl, hp.g_prices, _, rfl, q, d, o, tb, en, bk, pl, rfl, g, hp, fun sl cs Ha hsl0 hcs hcne hcl hka hsla => ?_⟩
    intro f1 hf1
    refine ⟨by show 1 ≤ sizeLine; omega, fun l hl => ⟨by show 3 ≤ sizeLine; omega, fun tp htp => ?_⟩⟩
    obtain ⟨hl1, nlf⟩ := none_of_upd hl
    obtain ⟨htp1, ntl⟩ := none_of_upd htp
    obtain ⟨htp2, ntf⟩ := none_of_upd htp1
    have f0 : H f1 = none := hka.free hf1 (by simp)
    have l0 : H l = none := hka.free hl1 (by simp)
    have k1 : Kp [] H (upd (upd (upd Ha f1 (.dK [])) l (.lst [.ref f1])) tp (.tup [.ref d, .ref sl, .ref l])) := ((hka.up (.inl f0)).up (.inl l0)).up (.inl (hka.free htp2 (by simp)))
    have l1 : upd (upd (upd Ha f1 (.dK [])) l (.lst [.ref f1])) tp (.tup [.ref d, .ref sl, .ref l]) l = some (.lst [.ref f1]) := by rw [upd_ne ntl.symm, upd_same]
    have f1' : upd (upd (upd Ha f1 (.dK [])) l (.lst [.ref f1])) tp (.tup [.ref d, .ref sl, .ref l]) f1 = some (.dK []) := by rw [upd_ne ntf.symm, upd_ne nlf.symm, upd_same]
    have sl1 : upd (upd (upd Ha f1 (.dK [])) l (.lst [.ref f1])) tp (.tup [.ref d, .ref sl, .ref l]) sl = some (.lst (cs.map sg)) := by
      rw [upd_ne (ne_of_none hsla htp2), upd_ne (ne_of_none hsla hl1), upd_ne (ne_of_none hsla hf1)]; exact hsla
    have t1 : upd (upd (upd Ha f1 (.dK [])) l (.lst [.ref f1])) tp (.tup [.ref d, .ref sl, .ref l]) tp = some (.tup [.ref d, .ref sl, .ref l]) := upd_same
    refine ⟨tp, _, rfl, SqT.of t1, rfl, _, _, rfl, _, _, rfl, _, _, rfl, rfl, ?_⟩
    generalize upd (upd (upd Ha f1 (.dK [])) l (.lst [.ref f1])) tp (.tup [.ref d, .ref sl, .ref l]) = H1 at k1 l1 f1' sl1 t1
    clear htp htp1 htp2 hl hl1 hf1
    have nf : ∀ {x : Addr}, H x = none → x ∉ ms := fun {x} e hx => by
      obtain ⟨o, ho⟩ := hin.mi x hx
      rw [e] at ho
      cases ho
    have vf : VolAt CF H fp0 := vol_hid hin.sh.vol
    have nff : ∀ {x : Addr}, H x = none → x ∉ fp0 := fun {x} e hx => by
      obtain ⟨o, ho, _⟩ := vf x hx
      rw [e] at ho
      cases ho
    have wsub := wms_in hin.ml
    have X1 := hX.kp0 k1
    have R1 := hR.kp k1
    have P1 : PlanH (hid ms H1) q d o tb en bk pl := hpl.kp0 (hid_kp k1 fun x hx => by cases hx)
    have gl : GoodBook bl := g.perm hperm
    have W0 : WkI CB CC CF H1 s sa l bl pl wo ms fp0 0 H1 [] f1 [] [] [] [] fp0 :=
      ⟨kp_refl H1, fun x hx => .inl hx, hin.sh.kp0 (hid_kp k1 fun x hx => by cases hx), hin.wh.kp k1 (CF := CF) vol_nil, k1 _ _ hsa (by simp), l1, .nil, ⟨f1', nf f0⟩, chain_nil bl, .refl _, (fun p hp => by cases hp), Nat.le_refl _, (fun z => by omega), rfl⟩
    -- what stands through the walk
    have v1 : VolAt CF (hid ms H1) (fp0 ++ [sa, l]) := fun x hx => by
      rcases List.mem_append.mp hx with z | z
      · exact W0.sh.vol x z
      · simp only [List.mem_cons, List.not_mem_nil, or_false] at z
        rcases z with z | z <;> rw [z]
        · exact ⟨_, by rw [hid_out nsm]; exact W0.sm, .inl ⟨_, rfl⟩⟩
        · exact ⟨_, by rw [hid_out (nf l0)]; exact l1, .inl ⟨_, rfl⟩⟩
    have plF : ∀ {i : Nat} {Hx : Hp} {fas : List Addr} {f : Addr} {Ss : List Tb} {S : Tb} {dn : List Chg} {am : Am} {fp : List Addr}, WkI CB CC CF H1 s sa l bl pl wo ms fp0 i Hx fas f Ss S dn am fp → PlanH Hx q d o tb en bk pl := fun W => by
      have kG : Kp (fp0 ++ [sa, l]) (hid ms H1) (hid ms _) := hid_kp W.kp fun x hx => by
        rcases List.mem_append.mp hx with z | z
        · rcases List.mem_append.mp z with y | y
          · exact .inl (List.mem_append_left _ y)
          · exact .inr (.inl (wsub x y))
        · exact .inl (List.mem_append_right _ z)
      exact (P1.kp kG v1).kp0 (hid_sub ms _)
    have wdk : ∀ x ∈ wms wo, ∃ kvs, H1 x = some (.dK kvs) := fun x hx => by
      cases wo with
      | none => cases hx
      | some Wt => rw [List.mem_singleton.mp hx]; exact ⟨_, (W0.wh Wt rfl).hm⟩
    have nlw : ∀ {x : Addr} {xs : List V}, H1 x = some (.lst xs) → x ∉ wms wo := fun {x xs} e hx => by
      obtain ⟨kvs, e2⟩ := wdk x hx
      rw [e] at e2
      cases e2
    have slF : ∀ {i : Nat} {Hx : Hp} {fas : List Addr} {f : Addr} {Ss : List Tb} {S : Tb} {dn : List Chg} {am : Am} {fp : List Addr}, WkI CB CC CF H1 s sa l bl pl wo ms fp0 i Hx fas f Ss S dn am fp → Hx sl = some (.lst (cs.map sg)) := fun W =>
      W.at sl1 (nff hsl0) (nlw sl1) (fun e => by rw [e, hsa] at hsl0; cases hsl0) (fun e => by
        rw [e, l1] at sl1
        cases cs with
        | nil => exact hcne rfl
        | cons c cs => cases sl1)
    have rF : ∀ {i : Nat} {Hx : Hp} {fas : List Addr} {f : Addr} {Ss : List Tb} {S : Tb} {dn : List Chg} {am : Am} {fp : List Addr}, WkI CB CC CF H1 s sa l bl pl wo ms fp0 i Hx fas f Ss S dn am fp → Reel Hx r := fun W => by
      obtain ⟨x, y, z, e⟩ := R1
      exact ⟨x, y, z, W.at e nrf (nlw e) nrs (fun e2 => by rw [e2, l1] at e; cases e)⟩
    have aF : ∀ {i : Nat} {Hx : Hp} {fas : List Addr} {f : Addr} {Ss : List Tb} {S : Tb} {dn : List Chg} {am : Am} {fp : List Addr}, WkI CB CC CF H1 s sa l bl pl wo ms fp0 i Hx fas f Ss S dn am fp → SqX K Hx a (ns.map V.int) := fun W =>
      X1.kp W.kp fun x hx o u e => by
        rcases List.mem_append.mp hx with z | z
        · rcases List.mem_append.mp z with y | y
          · obtain ⟨o2, e2, h2⟩ := W0.sh.vol x y
            rw [(hid_some e2).2] at e
            cases e
            rcases h2 with ⟨_, z⟩ | ⟨_, _, z⟩ <;> cases z
          · obtain ⟨kvs, e2⟩ := wdk x y
            rw [e] at e2
            cases e2
        · simp only [List.mem_cons, List.not_mem_nil, or_false] at z
          rcases z with z | z
          · rw [z, W0.sm] at e; cases e
          · rw [z, l1] at e; cases e
    refine ⟨_, rfl, a, _, rfl, .inl X1.sq, _, _, rfl, _, _, rfl, ?_⟩
    obtain ⟨N, eN, hN1, hN2⟩ : ∃ N : Nat, (if (if (((ns.map V.int).length : Nat) : Int) < 63 then (((ns.map V.int).length : Nat) : Int) else 63) > 1 then (if (((ns.map V.int).length : Nat) : Int) < 63 then (((ns.map V.int).length : Nat) : Int) else 63) else 1) = (N : Int) ∧ 1 ≤ N ∧ N ≤ 63 := by
      generalize (ns.map V.int).length = m
      by_cases h1 : (m : Int) < 63
      · rw [if_pos h1]
        by_cases h2 : (m : Int) > 1
        · exact ⟨m, by rw [if_pos h2], by omega, by omega⟩
        · exact ⟨1, by rw [if_neg h2]; rfl, by omega, by omega⟩
      · rw [if_neg h1]
        exact ⟨63, by decide, by omega, by omega⟩
    rw [eN]
    refine ⟨(N : Int), rfl, by omega, by omega, ?_⟩
    rw [Int.toNat_natCast]
    refine for_range (n := N) (fun i σ H' => ∃ (x8 x9 x10 x11 x12 x13 x14 x15 x16 x17 x18 x19 x20 x21 : Option V) (fas : List Addr) (f : Addr) (Ss : List Tb) (S : Tb) (dn : List Chg) (am : Am) (fp : List Addr), σ = wkS r a q s sa d sl l x8 x9 x10 x11 x12 x13 x14 x15 x16 x17 x18 x19 x20 x21 ∧ WkI CB CC CF H1 s sa l bl pl wo ms fp0 i H' fas f Ss S dn am fp)
      ⟨none, none, none, none, none, none, none, none, none, none, none, none, none, none, [], f1, [], [], [], [], fp0, rfl, W0⟩ ?_ ?_
    · rintro i σ Hc hi ⟨x8, x9, x10, x11, x12, x13, x14, x15, x16, x17, x18, x19, x20, x21, fas, f, Ss, S, dn, am, fp, rfl, W⟩
      rw [Int.zero_add]
      -- cell
      refine ⟨fun σ' H' => ∃ c : Int, σ' = wkS r a q s sa d sl l (some (.int (i : Int))) (some (.int c)) x10 x11 x12 x13 x14 x15 x16 x17 x18 x19 x20 x21 ∧ Hc = H', ?_, ?_⟩
      · refine ⟨_, rfl, _, rfl, _, _, rfl, .inl (aF W).sq, _, _, rfl, rfl, _, rfl, ite2 (fun hc => ?_) (fun hc => ?_)⟩
        · have hlt : i < ns.length := by
            have := of_decide_eq_true hc
            simp only [List.length_map] at this
            omega
          exact ⟨_, rfl, _, rfl, _, _, _, V.int ns[i], rfl, rfl, (aF W).sq, atI_nat (by simp [hlt]), _, rfl, rfl⟩
        · exact ⟨5, rfl, rfl⟩
      rintro σ' H' ⟨c, rfl, rfl⟩
      refine ⟨fun σ' H' => ∃ gr : Int, σ' = wkS r a q s sa d sl l (some (.int (i : Int))) (some (.int c)) (some (.int gr)) x11 x12 x13 x14 x15 x16 x17 x18 x19 x20 x21 ∧ Hc = H', ?_, ?_⟩
      · exact ⟨_, rfl, _, rfl, .inl ⟨_, rfl, _, _, rfl, rfl, ⟨by decide, by decide, by decide⟩, _, _, rfl, rfl, (by show (0 : Int) < 10 ^ Int.toNat 60; decide), _, rfl, rfl⟩⟩
      rintro σ' H' ⟨gr, rfl, rfl⟩
      -- step
      refine ⟨fun σ' H' => ∃ st : Addr, σ' = wkS r a q s sa d sl l (some (.int (i : Int))) (some (.int c)) (some (.int gr)) (some (.ref st)) x12 x13 x14 x15 x16 x17 x18 x19 x20 x21 ∧ Kp [] Hc H' ∧ Hc st = none ∧ Reel H' st, ?_, ?_⟩
      · obtain ⟨z0, z1, z2, er⟩ := rF W
        refine ⟨_, rfl, _, _, rfl, rfl, ⟨by decide, by decide, by decide⟩, _, _, rfl, rfl, _, _, rfl, _, rfl, r, _, 1, _, rfl, rfl, SqL.of er, rfl, _, rfl, _, _, rfl, rfl, _, rfl, r, _, 2, _, rfl, rfl, SqL.of er, rfl, _, rfl, _, _, rfl, rfl, by show 3 ≤ sizeLine; omega, fun st hst => ?_⟩
        exact ⟨st, rfl, (kp_refl Hc).up (.inl hst), hst, reel_same _ _ _⟩
      rintro σ' Hs ⟨st, rfl, ks, hst, hRs⟩
      have Ws := W.kp0 ks
      -- name and text
      refine ⟨fun σ' H' => ∃ (nm t : Tx0), σ' = wkS r a q s sa d sl l (some (.int (i : Int))) (some (.int c)) (some (.int gr)) (some (.ref st)) (some (tv nm)) (some (tv t)) x14 x15 x16 x17 x18 x19 x20 x21 ∧ Kp [] Hc H' ∧ Reel H' st ∧ Nm nm ∧ Ov bk t ∧ t.length ≤ 8, ?_, ?_⟩
      · refine ⟨_, rfl, st, rfl, hRs, fun nm Hn hlt h1 h8 kn hRn => ?_⟩
        have kn0 : Kp [] Hc Hn := ks.trans' kn hst
        have Wn := W.kp0 kn0
        refine ⟨_, rfl, _, rfl, _, rfl, st, 9, rfl, hRn, by decide, by decide, fun v y0 y1 y2 h0 h9 => ?_⟩
        obtain ⟨m, rfl⟩ : ∃ m : Nat, v = m := ⟨v.toNat, by omega⟩
        have kv : Kp [st] Hn (upd Hn st (.lst [.int y0, .int y1, .int y2])) := (kp_refl Hn).up (.inr (by simp))
        have hRv : Reel (upd Hn st (.lst [.int y0, .int y1, .int y2])) st := reel_same y0 y1 y2
        generalize upd Hn st (.lst [.int y0, .int y1, .int y2]) = Hv at kv hRv
        have kv0 : Kp [] Hc Hv := kn0.trans' kv hst
        have nsl : V.ref sl ≠ .ref st := fun e => by
          cases e
          rw [slF W] at hst
          cases hst
        refine ⟨st, .ref sl, cs, m, rfl, hRv, .inr ⟨sl, rfl, slF (W.kp0 kv0)⟩, nsl, .inl hcne, by omega, by omega, fun t Ht htl htc kt hRt => ⟨_, _, rfl, nm, t, rfl, kv0.trans' kt hst, hRt, ⟨hlt, h1, h8⟩, fun c hc => (hcs c).mp (htc c hc), by omega⟩⟩
      rintro σ' Hd ⟨nm, t, rfl, kd, hRd, hnm, hov, htl⟩
      have Wd := W.kp0 kd
      obtain ⟨dxs, cS, txS, smS, ldS, luS, lwS, rwS, dsS, usS, efp, aS⟩ := W.sh
      have okR : RowsOk bl S := aS.ok
      have hS50 := okR.le
      have vfp : VolAt CF Hc fp := vol_hid W.sh.vol
      have nsa : sa ∉ fp := W.nfp W0.sm nsf
      have nlfp : l ∉ fp := W.nfp l1 (nff l0)
      have nlsa : l ≠ sa := fun e => by rw [e, hsa] at l0; cases l0
      have nlw2 : l ∉ wms wo := nlw l1
      have nsaw : sa ∉ wms wo := fun z => nsm (wsub _ z)
      have aml := W.am.length_eq
      rw [List.length_map] at aml
      have miD : ∀ x ∈ ms, ∃ o, Hc x = some o := fun x hx => by
        by_cases hw : x ∈ wms wo
        · cases wo with
          | none => cases hw
          | some Wt => rw [List.mem_singleton.mp hw]; exact ⟨_, (W.wh Wt rfl).hm⟩
        · obtain ⟨o, ho⟩ := hin.mi x hx
          refine ⟨o, W.at (k1 _ _ ho (by simp)) (fun z => ?_) hw (fun z => nsm (by rw [← z]; exact hx)) (fun z => nf l0 (by rw [← z]; exact hx))⟩
          obtain ⟨o2, e2, _⟩ := hin.sh.vol x z
          exact (hid_some e2).1 hx
      have fx : ∀ {Hy : Hp}, Kp [] Hc Hy → Hy s = some (ShO CF dxs cS txS smS ldS luS lwS) ∧ Hy sa = some (.lst [.int (sumW (prM bl pl) S)]) ∧ Hy l = some (.lst (fas.map .ref ++ [.ref f])) ∧ Hy f = some (.dK (dV tv S)) ∧ ShIn P w K mg base CB CC CF Hy s bl pl S dn [] wo am ms fp := fun {Hy} ky => by
        have Wy := W.kp0 ky
        refine ⟨ky _ _ (hid_some aS.hs).2 (by simp), Wy.sm, by rw [Wy.fl, List.map_append]; rfl, Wy.ff.1, ⟨Wy.sh, Wy.wh, hin.wk, hin.ml, fun x hx => ?_, by omega⟩⟩
        obtain ⟨o, ho⟩ := miD x hx
        exact ⟨o, ky _ _ ho (by simp)⟩
      have hdc : Hc d = some (.dK (dB bk)) := (plF W).hd
      have ndm : d ∉ ms := (hid_some P1.hd).1
      have hovl : Ov bl t := ov_perm hperm hov
      have h63 : i < 63 := by omega
      have hdl := W.dl
      have getp : ∀ {u p : Tx0}, Ov bk u → p ∈ cutM pl u → ∃ n, getA bk p = some n := fun {u p} ho hp => getA_pcs g ((cut_ok g gp u.length u (Nat.le_refl _) ho).1 p hp)
      obtain ⟨hsd, hsm, hfl, hff, inS⟩ := fx kd
      -- edit or put
      refine ⟨fun σ' H3 => ∃ (t' : Tx0) (y14 y15 y16 y17 y18 y19 y20 y21 : Option V), σ' = wkS r a q s sa d sl l (some (.int (i : Int))) (some (.int c)) (some (.int gr)) (some (.ref st)) (some (tv nm)) (some (tv t')) y14 y15 y16 y17 y18 y19 y20 y21 ∧
        ((∃ fp2, ShelfH CB CC CF (hid ms H3) s bl pl (putR S nm (some t')) (dn ++ [⟨nm, getA S nm, some t'⟩]) [] (wfs wo) fp2 ∧ (∀ x ∈ fp2, x ∈ fp ∨ Hc x = none) ∧ WoH H3 wo (putA am nm (some (bhM bl pl t'))) ∧ H3 sa = some (.lst [.int (sumW (prM bl pl) (putR S nm (some t')))]) ∧ Kp (fp ++ wms wo ++ [sa]) Hc H3 ∧ t'.length ≤ 8 * (i + 1) ∧ (nm ∈ S.map (·.1) ∨ S.length < 50) ∧ RowsOk bl (putR S nm (some t')))
         ∨ (Kp [] Hc H3 ∧ nm ∉ S.map (·.1) ∧ 50 ≤ S.length)), ?_, ?_⟩
      · refine ⟨_, rfl, _, rfl, _, rfl, _, _, _, .ref f, rfl, rfl, SqL.of hfl, atI_end _ _, _, _, rfl, dget_A hff nm, _, rfl, ?_⟩
        cases eg : getA S nm with
        | some t0 =>
          refine iteT' rfl ?_
          have hmem := getA_some eg
          have h0l' : t0.length ≤ 8 * i := W.tl _ hmem
          have ho0l : Ov bl t0 := (okR.tx _ hmem).1
          have ho0 : Ov bk t0 := ov_perm hperm.symm ho0l
          refine ⟨_, rfl, _, rfl, _, _, _, .ref f, rfl, rfl, SqL.of hfl, atI_end _ _, _, rfl, f, tv t0, rfl, dget_S hff eg, ?_⟩
          refine ⟨_, rfl, _, rfl, st, t0, rfl, hRd, by omega, fun sp a0 b0 He hsp hab hb0 ke hRe hsp2 => ?_⟩
          have ke0 : Kp [] Hc He := kd.trans' ke hst
          obtain ⟨hse, hsme, hfle, hffe, inE⟩ := fx ke0
          refine ⟨sp, _, rfl, SqT.of hsp2, rfl, _, _, rfl, _, _, rfl, rfl, ?_⟩
          have htl3 : (t0.take a0 ++ t ++ t0.drop b0).length = a0 + t.length + (t0.length - b0) := by
            rw [List.length_append, List.length_append, List.length_take, List.length_drop]
            omega
          have ov3 : Ov bk (t0.take a0 ++ t ++ t0.drop b0) := ov_app (ov_app (ov_take ho0 _) hov) (ov_drop ho0 _)
          have ok3 := okR.put hnm (ov_perm hperm ov3) (by omega) (.inl (List.mem_map_of_mem (f := (·.1)) hmem))
          refine ⟨_, rfl, s, dxs, _, rfl, hse, rfl, _, rfl, _, rfl, _, rfl, _, rfl, s, bl, pl, S, dn, [], wo, am, ms, fp, nm, t0, t, a0, b0, rfl, inE, eg, hovl, hab, hb0, by omega, ok3, by omega, fun z gA mA ix gone came H3 hz o3 hcm z3 g3 m3 => ?_⟩
          obtain ⟨fp2, sh3, fr3, wh3, kp3⟩ := o3
          have kc3 : Kp (fp ++ wms wo) Hc H3 := (ke0.any _).trans kp3
          have sm3 : H3 sa = some (.lst [.int (sumW (prM bl pl) S)]) := kp3 _ _ hsme (fun z => (List.mem_append.mp z).elim nsa nsaw)
          have ndfp : d ∉ fp := fun z => by
            obtain ⟨o2, e2, h2⟩ := vfp d z
            rw [hdc] at e2
            cases e2
            rcases h2 with ⟨_, y⟩ | ⟨_, _, y⟩ <;> cases y
          have d3 : H3 d = some (.dK (dB bk)) := kc3 _ _ hdc (fun z => (List.mem_append.mp z).elim ndfp (fun y => ndm (wsub _ y)))
          refine ⟨z, _, rfl, SqT.of z3, rfl, _, _, rfl, _, _, rfl, _, _, rfl, rfl, ?_⟩
          obtain ⟨pre, suf, eo, en2⟩ := id hcm
          have hgone : ∀ p ∈ gone, p ∈ cutM pl t0 := fun p hp => by rw [eo]; simp [hp]
          have hcame : ∀ p ∈ came, p ∈ cutM pl (t0.take a0 ++ t ++ t0.drop b0) := fun p hp => by rw [en2]; simp [hp]
          have lg := cut_len g gp ho0
          have lc := cut_len g gp ov3
          have l2 := congrArg List.length eo
          have l3 := congrArg List.length en2
          simp only [List.length_append] at l2 l3
          -- came
          refine ⟨fun σ' H' => σ' = wkS r a q s sa d sl l (some (.int (i : Int))) (some (.int c)) (some (.int gr)) (some (.ref st)) (some (tv nm)) (some (tv t)) (some (tv t0)) (some (.int a0)) (some (.int b0)) (some (.int ix)) (some (.ref gA)) (some (.ref mA)) x20 x21 ∧ Kp [sa] H3 H' ∧ H' sa = some (.lst [.int (sumW (prM bl pl) S + cost bk came)]), ?_, ?_⟩
          · refine ⟨_, rfl, sa, _, 0, _, rfl, rfl, SqL.of sm3, rfl, _, rfl, mA, rfl, ⟨_, SqT.of m3⟩, fun D hD => ?_⟩
            refine comp_tup came tv (fun _ => true) (fun p => .int ((getA bk p).getD 0)) (fun acc => SqT.of (by rw [upd_ne (ne_of_none m3 hD)]; exact m3)) (by omega) ?_ ?_
            · intro p hp acc Nx hz h1 h2
              obtain ⟨n, hn⟩ := getp ov3 (hcame p hp)
              refine ⟨rfl, _, rfl, _, rfl, d, .int n, rfl, dget_S (by rw [upd_ne (ne_of_none d3 hD)]; exact d3) hn, acc, upd_same, hz, ?_⟩
              rw [upd_upd]
              have := h1 rfl
              rw [hn] at this
              exact this
            · refine ⟨D, came.map fun p => (getA bk p).getD 0, rfl, SqL.of ?_, ?_⟩
              · rw [upd_same, List.filter_eq_self.mpr fun _ _ => rfl]
                simp only [List.map_map]
                rfl
              · refine ⟨_, _, rfl, rfl, _, rfl, sa, _, 0, 0, rfl, rfl, by rw [upd_ne (ne_of_none sm3 hD)]; exact sm3, rfl, rfl, ((kp_refl H3).up (.inl hD)).up (.inr (by simp)), upd_same⟩
          rintro σ' H4 ⟨rfl, k4, sm4⟩
          have n34 : ∀ {x : Addr} {o : HO}, H3 x = some o → (∀ xs, o ≠ .lst xs) → H4 x = some o := fun {x o} e n => k4 _ _ e (by
            simp only [List.mem_singleton]
            rintro rfl
            rw [sm3] at e
            exact n _ (Option.some.inj e).symm)
          have d4 := n34 d3 (fun xs z => nomatch z)
          have g4 := n34 g3 (fun xs z => nomatch z)
          -- gone
          refine ⟨fun σ' H' => σ' = wkS r a q s sa d sl l (some (.int (i : Int))) (some (.int c)) (some (.int gr)) (some (.ref st)) (some (tv nm)) (some (tv t)) (some (tv t0)) (some (.int a0)) (some (.int b0)) (some (.int ix)) (some (.ref gA)) (some (.ref mA)) x20 x21 ∧ Kp [sa] H3 H' ∧ H' sa = some (.lst [.int (sumW (prM bl pl) S + cost bk came - cost bk gone)]), ?_, ?_⟩
          · refine ⟨_, rfl, sa, _, 0, _, rfl, rfl, SqL.of sm4, rfl, _, rfl, gA, rfl, ⟨_, SqT.of g4⟩, fun D hD => ?_⟩
            refine comp_tup gone tv (fun _ => true) (fun p => .int ((getA bk p).getD 0)) (fun acc => SqT.of (by rw [upd_ne (ne_of_none g4 hD)]; exact g4)) (by omega) ?_ ?_
            · intro p hp acc Nx hz h1 h2
              obtain ⟨n, hn⟩ := getp ho0 (hgone p hp)
              refine ⟨rfl, _, rfl, _, rfl, d, .int n, rfl, dget_S (by rw [upd_ne (ne_of_none d4 hD)]; exact d4) hn, acc, upd_same, hz, ?_⟩
              rw [upd_upd]
              have := h1 rfl
              rw [hn] at this
              exact this
            · refine ⟨D, gone.map fun p => (getA bk p).getD 0, rfl, SqL.of ?_, ?_⟩
              · rw [upd_same, List.filter_eq_self.mpr fun _ _ => rfl]
                simp only [List.map_map]
                rfl
              · refine ⟨_, _, rfl, rfl, _, rfl, sa, _, 0, 0, rfl, rfl, by rw [upd_ne (ne_of_none sm4 hD)]; exact sm4, rfl, rfl, k4.trans (((kp_refl H4).up (.inl hD)).up (.inr (by simp))), upd_same⟩
          rintro σ' H5 ⟨rfl, k5, sm5⟩
          refine ⟨_, rfl, _, rfl, _, rfl, _, rfl, by omega, .inl ⟨rfl, a0, rfl, ?_⟩⟩
          refine ⟨_, rfl, _, _, rfl, rfl, ?_, ?_⟩
          · rw [SX.S_len, SX.S_len, List.length_take]
            omega
          rw [SX.S_cat]
          refine ⟨_, rfl, _, rfl, _, rfl, _, rfl, by omega, .inr (.inl ⟨rfl, b0, rfl, ?_⟩)⟩
          refine ⟨_, _, rfl, rfl, ?_, ?_⟩
          · rw [SX.S_len, SX.S_len, List.length_append, List.length_take, List.length_drop]
            omega
          rw [SX.S_cat]
          have vG3 : VolAt CF (hid ms H3) [sa] := fun x hx => by
            rw [List.mem_singleton.mp hx, hid_out nsm]
            exact ⟨_, sm3, .inl ⟨_, rfl⟩⟩
          have vH3 : VolAt CF H3 [sa] := fun x hx => by
            rw [List.mem_singleton.mp hx]
            exact ⟨_, sm3, .inl ⟨_, rfl⟩⟩
          have nsf2 : sa ∉ fp2 := fun z => (fr3 sa z).elim nsa fun y => by rw [hsme] at y; cases y
          refine ⟨t0.take a0 ++ t ++ t0.drop b0, some (tv t0), some (.int a0), some (.int b0), some (.int ix), some (.ref gA), some (.ref mA), x20, x21, rfl, .inl ⟨fp2, sh3.kp (hid_kp k5 fun x hx => .inl hx) vG3 T.n_BF T.n_CF (fun x hx hn => nsf2 (by rw [← List.mem_singleton.mp hn]; exact hx)), fun x hx => ?_, wh3.kp k5 vH3, ?_, (kc3.sub (fun x hx => List.mem_append_left _ hx)).trans (k5.sub (by simp)), by omega, .inl (List.mem_map_of_mem (f := (·.1)) hmem), ok3⟩⟩
          · rcases fr3 x hx with z | z
            · exact .inl z
            · exact .inr (ke0.free z (by simp))
          · rw [sm5, sumW_put _ okR.nd, eg]
            show some (HO.lst [.int (sumW (prM bl pl) S + cost bk came - cost bk gone)]) = some (HO.lst [.int (sumW (prM bl pl) S - cost bl (cutM pl t0) + cost bl (cutM pl (t0.take a0 ++ t ++ t0.drop b0)))])
            rw [came_cost (bk := bl) hcm, cost_perm gl hperm.symm came, cost_perm gl hperm.symm gone]
            congr 4
            omega
        | none =>
          refine iteF' rfl ?_
          refine ⟨_, rfl, _, rfl, _, _, _, .ref f, rfl, rfl, SqL.of hfl, atI_end _ _, f, _, rfl, hff, _, _, rfl, rfl, _, rfl, ite2 (fun hc => ?_) (fun hc => ?_)⟩
          · have hlt50 : S.length < 50 := by
              have := of_decide_eq_true hc
              rw [dV_length] at this
              omega
            refine ⟨_, rfl, sa, _, 0, _, rfl, rfl, SqL.of hsm, rfl, _, rfl, _, rfl, q, d, o, tb, en, bk, pl, t, rfl, g, (plF W).kp0 kd, gp, hov, by omega, fun H2 k2 => ?_⟩
            have sm2 := k2 _ _ hsm (by simp)
            refine ⟨_, _, rfl, rfl, _, rfl, sa, _, 0, 0, rfl, rfl, sm2, rfl, ?_⟩
            have kp3 : Kp [sa] H2 (upd H2 sa (.lst [.int (sumW (prM bl pl) S + prM bk pl t)])) := (kp_refl H2).up (.inr (by simp))
            have s3 : upd H2 sa (.lst [.int (sumW (prM bl pl) S + prM bk pl t)]) sa = some (.lst [.int (sumW (prM bl pl) S + prM bk pl t)]) := upd_same
            show (fun Hx => _) (upd H2 sa (.lst [.int (sumW (prM bl pl) S + prM bk pl t)]))
            generalize upd H2 sa (.lst [.int (sumW (prM bl pl) S + prM bk pl t)]) = H3 at kp3 s3
            have in3 := shin_lst (inS.kp0 k2) kp3 sm2 nsa nsm T.n_BF T.n_CF
            have hs3 := kp3 _ _ (k2 _ _ hsd (by simp)) (by simpa using ne_of hsd hsm (fun z => nomatch z))
            have ok3 := okR.put hnm hovl (by omega) (.inr hlt50)
            refine ⟨_, rfl, s, dxs, _, rfl, hs3, rfl, _, rfl, _, rfl, s, bl, pl, S, dn, [], wo, am, ms, fp, nm, t, rfl, in3, hnm, hovl, by omega, ok3, by omega, fun H4 o4 => ?_⟩
            obtain ⟨fp2, sh4, fr4, wh4, kp4⟩ := o4
            have k24 : Kp (fp ++ wms wo ++ [sa]) Hc H4 := (((kd.trans k2).any _).trans (kp3.sub (by simp))).trans (kp4.sub (by intro x hx; exact List.mem_append_left _ hx))
            refine ⟨t, x14, x15, x16, x17, x18, x19, x20, x21, rfl, .inl ⟨fp2, by rw [eg] at sh4; exact sh4, fun x hx => ?_, wh4, ?_, k24, by omega, .inr hlt50, ok3⟩⟩
            · rcases fr4 x hx with z | z
              · exact .inl z
              · refine .inr ((kd.trans k2).free (kp3.free z ?_) (by simp))
                intro h
                rw [List.mem_singleton.mp h, s3] at z
                cases z
            · rw [kp4 _ _ s3 (fun z => (List.mem_append.mp z).elim nsa nsaw), sumW_put _ okR.nd, eg]
              show some (HO.lst [.int (sumW (prM bl pl) S + prM bk pl t)]) = some (HO.lst [.int (sumW (prM bl pl) S - 0 + prM bl pl t)])
              rw [Int.sub_zero, pr_perm gl hperm.symm]
          · refine ⟨t, x14, x15, x16, x17, x18, x19, x20, x21, rfl, .inr ⟨kd, getA_none.mp eg, ?_⟩⟩
            have : ¬ (((dV tv S).length : Nat) : Int) < 50 := fun z => hc (decide_eq_true z)
            rw [dV_length] at this
            omega
      -- the new state
      rintro σ' H3 ⟨t', y14, y15, y16, y17, y18, y19, y20, y21, rfl, hh⟩
      have hS0 : ∀ {p : Addr} {o : HO}, Hc p = some o → p ∉ ms → (∀ xs, o ≠ .lst xs) → (∀ dx fs, o ≠ .ins CF dx fs) → p ∉ fp ++ wms wo ++ [sa] := fun {p o} e n1 n2 n3 z => by
        rcases List.mem_append.mp z with y | y
        · rcases List.mem_append.mp y with y2 | y2
          · obtain ⟨o2, e2, h2⟩ := vfp p y2
            rw [e] at e2
            cases e2
            rcases h2 with ⟨xs, w2⟩ | ⟨dx, fs, w2⟩
            · exact n2 xs w2
            · exact n3 dx fs w2
          · exact n1 (wsub _ y2)
        · rw [List.mem_singleton.mp y, (fx (kp_refl Hc)).2.1] at e
          exact n2 _ (Option.some.inj e).symm
      have hfc := (fx (kp_refl Hc)).2.2.2.1
      have hlc := (fx (kp_refl Hc)).2.2.1
      rcases hh with ⟨fp2, sh3, fr3, wh3, sm3, kp3, tl3, h50, ok3⟩ | ⟨k3, hn, h50⟩
      · have hl3 : H3 l = some (.lst (fas.map .ref ++ [.ref f])) := kp3 _ _ hlc (fun z => by
          rcases List.mem_append.mp z with y | y
          · exact (List.mem_append.mp y).elim nlfp nlw2
          · exact nlsa (List.mem_singleton.mp y))
        have hf3 : H3 f = some (.dK (dV tv S)) := kp3 _ _ hfc (hS0 hfc W.ff.2 (fun xs z => nomatch z) (fun dx fs z => nomatch z))
        refine ⟨_, rfl, _, rfl, _, _, _, .ref f, rfl, rfl, SqL.of hl3, atI_end _ _, f, _, rfl, hf3, fun rA hrA => ?_⟩
        have k34 : Kp [] H3 (upd H3 rA (.dK (dV tv S))) := (kp_refl H3).up (.inl hrA)
        have r4 : upd H3 rA (.dK (dV tv S)) rA = some (.dK (dV tv S)) := upd_same
        refine ⟨_, rfl, _, rfl, _, _, rfl, dget_A r4 nm, _, rfl, ?_⟩
        rcases eg : getA S nm with _ | t0
        all_goals
          first
          | refine iteT' rfl ?_
          | refine iteF' rfl ⟨_, rfl, rA, _, rfl, r4, _, _, rfl, rfl, _, rfl, iteT' (decide_eq_true (by
              rw [dV_length]
              rcases h50 with z | z
              · exact absurd z (getA_none.mp eg)
              · omega)) ?_⟩
          refine ⟨_, rfl, _, rfl, _, rfl, rA, _, rfl, DPut.k (k := kx nm) r4 (by rw [dV_length]; omega), ?_⟩
          have k35 : Kp [] H3 (upd (upd H3 rA (.dK (dV tv S))) rA (.dK (putK (dV tv S) (kx nm) (tv t')))) := k34.up (.inl hrA)
          have r5 : upd (upd H3 rA (.dK (dV tv S))) rA (.dK (putK (dV tv S) (kx nm) (tv t'))) rA = some (.dK (dV tv (putA S nm t'))) := by rw [upd_same, putK_dV]
          generalize upd (upd H3 rA (.dK (dV tv S))) rA (.dK (putK (dV tv S) (kx nm) (tv t'))) = H5 at k35 r5
          have hl5 := k35 _ _ hl3 (by simp)
          have hfl2 := Paired.length W.fd
          have hch := W.ch.1
          rw [List.length_append, List.length_singleton] at hch
          refine ⟨_, rfl, .inl ⟨rfl, _, SqL.of hl5⟩, _, rfl, l, _, .ref rA, rfl, rfl, hl5, by rw [List.length_append, List.length_map, List.length_singleton]; omega, ?_⟩
          have k56 : Kp [l] H5 (upd H5 l (.lst (fas.map .ref ++ [.ref f] ++ [.ref rA]))) := (kp_refl H5).up (.inr (by simp))
          have l6 : upd H5 l (.lst (fas.map .ref ++ [.ref f] ++ [.ref rA])) l = some (.lst ((fas ++ [f] ++ [rA]).map .ref)) := by rw [upd_same, List.map_append, List.map_append]; rfl
          show (fun Hx => _) (upd H5 l (.lst (fas.map .ref ++ [.ref f] ++ [.ref rA])))
          generalize upd H5 l (.lst (fas.map .ref ++ [.ref f] ++ [.ref rA])) = H6 at k56 l6
          have k36 : Kp [l] H3 H6 := (k35.any _).trans k56
          have kc6 : Kp (fp ++ wms wo ++ [sa] ++ [l]) Hc H6 := (kp3.sub (fun x hx => List.mem_append_left _ hx)).trans (k36.sub (by simp))
          have vl3 : VolAt CF H3 [l] := fun x hx => by
            rw [List.mem_singleton.mp hx]
            exact ⟨_, hl3, .inl ⟨_, rfl⟩⟩
          have nlm : l ∉ ms := nf l0
          have vlG : VolAt CF (hid ms H3) [l] := fun x hx => by
            rw [List.mem_singleton.mp hx, hid_out nlm]
            exact ⟨_, hl3, .inl ⟨_, rfl⟩⟩
          have nlf2 : l ∉ fp2 := fun z => (fr3 l z).elim nlfp fun y => by rw [hlc] at y; cases y
          have pm : (putR S nm (some t')).Perm (putA S nm t') := by
            have hx := putA_perm (f := id) (am := S) (m := S) (by simp) okR.nd nm t'
            simp at hx
            exact hx.symm
          have frm : rA ∉ ms := fun hx => by
            by_cases hw : rA ∈ wms wo
            · cases hwo : wo with
              | none => rw [hwo] at hw; cases hw
              | some Wt =>
                rw [hwo] at hw
                have := (wh3 Wt hwo).hm
                rw [← List.mem_singleton.mp hw, hrA] at this
                cases this
            · obtain ⟨o, ho⟩ := miD rA hx
              have hmm := kp3 _ _ ho (fun z => by
                rcases List.mem_append.mp z with y | y
                · rcases List.mem_append.mp y with y2 | y2
                  · obtain ⟨o2, e2, _⟩ := W.sh.vol rA y2
                    exact (hid_some e2).1 hx
                  · exact hw y2
                · exact nsm (by rw [← List.mem_singleton.mp y]; exact hx))
              rw [hrA] at hmm
              cases hmm
          have nrl : rA ≠ l := fun e => by rw [e, hl3] at hrA; cases hrA
          refine ⟨_, _, _, _, _, _, _, _, _, _, _, _, _, _, fas ++ [f], rA, Ss ++ [S], putA S nm t', dn ++ [⟨nm, getA S nm, some t'⟩], putA am nm (some (bhM bl pl t')), fp2, rfl, ?_⟩
          refine ⟨?_, fun x hx => ?_, ?_, wh3.kp k36 vl3, ?_, l6, ?_, ⟨k56 _ _ r5 (by simpa using nrl), frm⟩, chain_snoc W.ch rfl pm.symm okR (ok3.perm pm), ?_, fun p hp => ?_, ?_, fun _ hx => ?_, ?_⟩
          · intro x o e hx
            have h1 : x ∉ fp0 := fun z => hx (List.mem_append_left _ (List.mem_append_left _ z))
            have h2 : x ∉ wms wo := fun z => hx (List.mem_append_left _ (List.mem_append_right _ z))
            have h3 : x ≠ sa := fun z => hx (List.mem_append_right _ (by simp [z]))
            have h4 : x ≠ l := fun z => hx (List.mem_append_right _ (by simp [z]))
            exact kc6 _ _ (W.at e h1 h2 h3 h4) (by simp [W.nfp e h1, h2, h3, h4])
          · rcases fr3 x hx with z | z
            · exact W.fr x z
            · cases e : H1 x with
              | none => exact .inr rfl
              | some o =>
                left
                by_cases hx0 : x ∈ fp0
                · exact hx0
                exfalso
                by_cases hxw : x ∈ wms wo
                · cases hwo : wo with
                  | none => rw [hwo] at hxw; cases hxw
                  | some Wt =>
                    rw [hwo] at hxw
                    have := (W.wh Wt hwo).hm
                    rw [← List.mem_singleton.mp hxw, z] at this
                    cases this
                by_cases hxs : x = sa
                · rw [hxs, (fx (kp_refl Hc)).2.1] at z; cases z
                by_cases hxl : x = l
                · rw [hxl, hlc] at z; cases z
                rw [W.at e hx0 hxw hxs hxl] at z
                cases z
          · exact (sh3.perm pm).kp (hid_kp k36 fun x hx => .inl hx) vlG T.n_BF T.n_CF (fun x hx hn => nlf2 (by rw [← List.mem_singleton.mp hn]; exact hx))
          · rw [k36 _ _ sm3 (by simpa using nlsa.symm), sumW_perm _ pm]
          · have old : ∀ {p : Addr} {A : Tb}, Hc p = some (.dK (dV tv A)) → p ∉ ms → H6 p = some (.dK (dV tv A)) := fun {p A} e n1 => kc6 _ _ e (fun z => by
              rcases List.mem_append.mp z with y | y
              · exact hS0 e n1 (fun xs z => nomatch z) (fun dx fs z => nomatch z) y
              · rw [List.mem_singleton.mp y, hlc] at e; cases e)
            exact paired_snoc (L2.Paired.mapP W.fd fun p A z => ⟨old z.1 z.2, z.2⟩) ⟨old hfc W.ff.2, W.ff.2⟩
          · exact (putA_perm (f := fun t => some (bhM bl pl t)) W.am okR.nd nm t').trans (pm.map _)
          · rcases mem_putA hp with z | z
            · rw [z]; exact tl3
            · have := W.tl p z
              omega
          · rw [List.length_append, List.length_singleton]
            omega
          · have : nm ∈ (putA S nm t').map (·.1) := mem_keys_putA.mpr (.inl rfl)
            rw [hx] at this
            cases this
          · rw [List.getElem?_append_left (by rw [List.length_append, List.length_singleton]; omega)]
            exact W.z0
      · have W3 := W.kp0 k3
        obtain ⟨_, _, hl3, hf3, _⟩ := fx k3
        refine ⟨_, rfl, _, rfl, _, _, _, .ref f, rfl, rfl, SqL.of hl3, atI_end _ _, f, _, rfl, hf3, fun rA hrA => ?_⟩
        have k34 : Kp [] H3 (upd H3 rA (.dK (dV tv S))) := (kp_refl H3).up (.inl hrA)
        have r4 : upd H3 rA (.dK (dV tv S)) rA = some (.dK (dV tv S)) := upd_same
        refine ⟨_, rfl, _, rfl, _, _, rfl, dget_A r4 nm, _, rfl, ?_⟩
        rw [getA_none.mpr hn]
        refine iteF' rfl ⟨_, rfl, rA, _, rfl, r4, _, _, rfl, rfl, _, rfl, iteF' (decide_eq_false (by rw [dV_length]; omega)) ?_⟩
        refine ⟨_, _, _, _, _, _, _, _, _, _, _, _, _, _, fas, f, Ss, S, dn, am, fp, rfl, (W3.kp0 k34).up fun e => ?_⟩
        rw [e] at h50
        simp at h50
    · rintro σ H' ⟨x8, x9, x10, x11, x12, x13, x14, x15, x16, x17, x18, x19, x20, x21, fas, f, Ss, S, dn, am, fp, rfl, W⟩
      exact ⟨_, rfl, k l H1 N fas f Ss S dn am fp H' k1 l0 ⟨_, l1⟩ W hN1 hN2⟩
end
end K75
-- part Q3
set_option Elab.async false
set_option linter.all false
set_option maxRecDepth 100000
set_option maxHeartbeats 4000000
namespace K75
open PySem PySem.Spec PyProof.Rows L2
theorem shin_next {P : Program} {w : World} {K : PySem.W.Frag} {mg : Str → Option Value} {base : Heap} {CB CC CF : Addr} {H H' : Hp} {s : Addr} {bk : Bk} {pl : Pl} {rows rows' : Tb} {dn ud dn' ud' : List Chg} {wo : Option Wt} {am am' : Am} {ms fp fp' : List Addr}
    (h : ShIn P w K mg base CB CC CF H s bk pl rows dn ud wo am ms fp) (sh : ShelfH CB CC CF (hid ms H') s bk pl rows' dn' ud' (wfs wo) fp') (wh : WoH H' wo am') (k : Kp (fp ++ wms wo) H H') (al : am'.length ≤ 900) : ShIn P w K mg base CB CC CF H' s bk pl rows' dn' ud' wo am' ms fp' := by
  refine ⟨sh, wh, h.wk, h.ml, fun x hx => ?_, al⟩
  by_cases hw : x ∈ wms wo
  · cases hwo : wo with
    | none => rw [hwo] at hw; cases hw
    | some W =>
      rw [hwo] at hw
      rw [List.mem_singleton.mp hw]
      exact ⟨_, (wh W hwo).hm⟩
  · obtain ⟨o, ho⟩ := h.mi x hx
    refine ⟨o, k _ _ ho fun z => (List.mem_append.mp z).elim (fun y => ?_) hw⟩
    obtain ⟨o2, e2, _⟩ := h.sh.vol x y
    exact (hid_some e2).1 hx
theorem rows_of_perm {bk : Bk} {A B : Tb} {c : Chg} (h1 : c.b = getA B c.n) (h2 : A.Perm (putR B c.n c.a)) (hB : RowsOk bk B) : getA A c.n = c.a ∧ (putR A c.n c.b).Perm B := by
  refine ⟨?_, ?_⟩
  · rw [getA_perm h2 (nd_put hB.nd), get_put hB.nd]
  · have := put_perm h2 c.n c.b
    rw [put_put, h1] at this
    rw [h1]
    exact this.trans (put_get hB.nd)
theorem paired_get {α γ : Type} {F : α → γ → Prop} {ps : List α} {ks : List γ} (h : Paired F ps ks) : ∀ {j : Nat} {k : γ}, ks[j]? = some k → ∃ p, ps[j]? = some p ∧ F p k := by
  induction h with
  | nil => intro j k e; simp at e
  | @cons a b l m r t ih =>
    intro j k e
    cases j with
    | zero => simp at e; subst e; exact ⟨a, rfl, r⟩
    | succ j => simp at e; obtain ⟨p, e1, e2⟩ := ih e; exact ⟨p, by simpa using e1, e2⟩
section
variable {P : Program} {w : World} {K : PySem.W.Frag} {mg : Str → Option Value} {base : Heap} {CB CC CF : Addr}
def sp_back (P : Program) (w : World) (K : PySem.W.Frag) (mg : Str → Option Value) (base : Heap) (CB CC CF : Addr) : Sp := fun vs H Q _ => ∃ (s l : Addr) (bl : Bk) (pl : Pl) (wo : Option Wt) (am : Am) (ms fp fas : List Addr) (Ss : List Tb) (S : Tb) (cs : List Chg),
  vs = [.ref s, .ref l] ∧ ShIn P w K mg base CB CC CF H s bl pl S cs [] wo am ms fp ∧ ChainR bl (Ss ++ [S]) cs ∧ (Ss ++ [S])[0]? = some [] ∧ H l = some (.lst (fas.map .ref)) ∧ Paired (fun a S => H a = some (.dK (dV tv S)) ∧ a ∉ ms) fas (Ss ++ [S]) ∧ l ∉ fp ∧ am.length ≤ 100 ∧ cs.length ≤ 63 ∧
  ∀ H', Kp (fp ++ wms wo) H H' → Q (.bl true) H'
/-- the shelf stands at the state j -/
def BkI (P : Program) (w : World) (K : PySem.W.Frag) (mg : Str → Option Value) (base : Heap) (CB CC CF : Addr) (H0 : Hp) (s : Addr) (bl : Bk) (pl : Pl) (wo : Option Wt) (ms fp : List Addr) (Ss : List Tb) (cs : List Chg) (j m : Nat) (H : Hp) : Prop :=
  ∃ (A : Tb) (am : Am) (fp' : List Addr), Ss[j]? = some A ∧ ShIn P w K mg base CB CC CF H s bl pl A (cs.take j) ((cs.drop j).reverse) wo am ms fp' ∧ am.length ≤ m ∧ Kp (fp ++ wms wo) H0 H ∧ (∀ x ∈ fp', x ∈ fp ∨ H0 x = none)
theorem c_back (T : Ty K mg CB CC CF) : C8.Cal P w K mg base 9 "_law_back_and_forth" (sp_back P w K mg base CB CC CF) [] := by
  refine cal_of T.d_back_and_forth sc_back_and_forth (fun _ _ _ _ _ _ us hl => match us, hl with | [_, _], _ => rfl) (fun vs H Q E h => ?_) (fun cdv A outer fa s0 H vs Q E hr h => ?_)
  · obtain ⟨s, l, bl, pl, wo, am, ms, fp, fas, Ss, S, cs, rfl, _⟩ := h
    rfl
  · obtain ⟨s, l, bl, pl, wo, am, ms, fp, fas, Ss0, S, cs, rfl, hin, hch, hz, hl, hfd, nlf, hal, hcs, k⟩ := h
    have h3 : sizeLine = 16777216 := sizeLine_eq
    refine ⟨_, (pss_cons (ps_for PassesOwn.never rfl (pi_range3 (by rfl) T.n_range (pa_cons (pe_op op_sub (pe_callB call_len_seq (by rfl) T.n_len (by decide +kernel) (pa_cons (pv 1) pa_nil)) pe_int) (pa_cons pe_int (pa_cons (pe_un un_neg pe_int) pa_nil)))) (pg_name (i := 2) sc_back_and_forth.nd rfl (Or.inl rfl))
    (pss_one (ps_if (PW.pt (pw_or (pt_cmpR (op_ne_dictB hr.units0) (pe_pr (c_Shelf_texts T) hr (by decide) (pv 0)) (pe_ix (ix_listK (K := K) rfl) (pv 1) (pv 2) (fun _ _ => rfl)) (nomark _)) (pw_or1 (pt_cmpR op_ne (C8.pe_mt0 (c_Shelf_undo T) hr (by decide) (pv 0)) (pe_op op_sub (pv 2) pe_int) (nomark _)))))
      (pss_one (ps_ret pe_bl))
      pss_nil)))
  (pss_cons (ps_if (PW.pt (pw_or (pt_cmpR (op_ne_dictB hr.units0) (pe_pr (c_Shelf_texts T) hr (by decide) (pv 0)) pe_dnewK (nomark _)) (pw_or1 (pt_cmpR (op_neD hr.units) (pe_tup (pa_cons (pe_pr (c_Shelf_total T) hr (by decide) (pv 0)) (pa_cons (pe_pr (c_Shelf_lag T) hr (by decide) (pv 0)) (pa_cons (pe_callB (cr_lenO (c_Shelf_len T) hr (by decide)) (by rfl) T.n_len (by decide +kernel) (pa_cons (pv 0) pa_nil)) pa_nil)))) (pe_tup (pa_cons pe_int (pa_cons pe_int (pa_cons pe_int pa_nil)))) (nomark _)))))
    (pss_one (ps_ret pe_bl))
    pss_nil)
  (pss_cons (ps_for PassesOwn.never rfl (pi_range2 (by rfl) T.n_range (pa_cons pe_int (pa_cons (pe_callB call_len_seq (by rfl) T.n_len (by decide +kernel) (pa_cons (pv 1) pa_nil)) pa_nil))) (pg_name (i := 2) sc_back_and_forth.nd rfl (Or.inl rfl))
    (pss_one (ps_if (PW.pt (pw_or (pt_cmpR op_ne (C8.pe_mt0 (c_Shelf_redo T) hr (by decide) (pv 0)) (pv 2) (nomark _)) (pw_or1 (pt_cmpR (op_ne_dictB hr.units0) (pe_pr (c_Shelf_texts T) hr (by decide) (pv 0)) (pe_ix (ix_listK (K := K) rfl) (pv 1) (pv 2) (fun _ _ => rfl)) (nomark _)))))
      (pss_one (ps_ret pe_bl))
      pss_nil)))
  (pss_one (ps_ret pe_bl))))), ?_⟩
    obtain ⟨Ss, eSs⟩ : ∃ Ss, Ss = Ss0 ++ [S] := ⟨_, rfl⟩
    rw [← eSs] at hch hz hfd
    obtain ⟨N, eN⟩ : ∃ N, N = cs.length := ⟨_, rfl⟩
    have hSl : Ss.length = N + 1 := by rw [eN]; exact hch.1
    have hfl : fas.length = N + 1 := by rw [Paired.length hfd, hSl]
    have hSN : Ss[N]? = some S := by
      have h1 : Ss0.length = N := by
        rw [eSs, List.length_append, List.length_singleton] at hSl
        omega
      rw [eSs, List.getElem?_append_right (by omega)]
      simp [h1]
    have vfp : VolAt CF H fp := vol_hid hin.sh.vol
    have hwd : ∀ x ∈ wms wo, ∃ kvs, H x = some (.dK kvs) := fun x hx => by
      cases hwo : wo with
      | none => rw [hwo] at hx; cases hx
      | some W => rw [hwo] at hx; rw [List.mem_singleton.mp hx]; exact ⟨_, (hin.wh W hwo).hm⟩
    -- what stands
    have lF : ∀ {Hx : Hp}, Kp (fp ++ wms wo) H Hx → Hx l = some (.lst (fas.map .ref)) := fun {Hx} kk => kk _ _ hl fun z => (List.mem_append.mp z).elim nlf fun y => by
      obtain ⟨kvs, e⟩ := hwd l y
      rw [hl] at e
      cases e
    have dF : ∀ {Hx : Hp}, Kp (fp ++ wms wo) H Hx → ∀ {j : Nat} {A : Tb}, Ss[j]? = some A → ∃ a, atI (fas.map V.ref) ((j : Nat) : Int) = some (.ref a) ∧ Hx a = some (.dK (dV tv A)) := fun {Hx} kk {j A} e => by
      obtain ⟨a, e1, e2, e3⟩ := paired_get hfd e
      refine ⟨a, atI_nat (by rw [List.getElem?_map, e1]; rfl), kk _ _ e2 fun z => ?_⟩
      rcases List.mem_append.mp z with y | y
      · obtain ⟨o2, e4, h2⟩ := vfp a y
        rw [e2] at e4
        cases e4
        rcases h2 with ⟨_, u⟩ | ⟨_, _, u⟩ <;> cases u
      · exact e3 (wms_in hin.ml a y)
    refine ⟨_, rfl, l, _, rfl, .inl (SqL.of hl), _, _, rfl, rfl, _, rfl, (N : Int), 0, -1, N, ?_, ?_, ?_⟩
    · show [V.int ((((fas.map V.ref).length : Nat) : Int) - 1), .int 0, .int (-1)] = _
      rw [List.length_map, hfl]
      have : (((N + 1 : Nat) : Int) - 1) = (N : Int) := by omega
      rw [this]
    · have := RgC.neg (i := (N : Int)) (j := 0) (by omega) (by omega) (by omega) (by omega)
      simpa using this
    have hN63 : N ≤ 63 := by omega
    have hI0 : BkI P w K mg base CB CC CF H s bl pl wo ms fp Ss cs N 100 H := ⟨S, am, fp, hSN, by rw [eN, List.take_length, List.drop_length]; exact hin, hal, kp_refl H, fun x hx => .inl hx⟩
    refine for_rangeC (fun i σ H' => (∃ x, σ = [some (.ref s), some (.ref l), x]) ∧ BkI P w K mg base CB CC CF H s bl pl wo ms fp Ss cs (N - i) (100 + i) H') ⟨⟨none, rfl⟩, hI0⟩ ?_ ?_
    · rintro i σ H1 hi ⟨⟨x, rfl⟩, A, am1, fp1, hA, in1, hal1, k1, fr1⟩
      have ev : (N : Int) + ((i : Nat) : Int) * (-1) = ((N - i : Nat) : Int) := by omega
      rw [ev]
      obtain ⟨j, hj⟩ : ∃ j, N - i = j + 1 := ⟨N - i - 1, by omega⟩
      rw [hj] at hA in1 ⊢
      have hjl : j < cs.length := by omega
      obtain ⟨B, hB⟩ : ∃ B, Ss[j]? = some B := ⟨_, List.getElem?_eq_getElem (by omega)⟩
      obtain ⟨c1, c2, c3, c4⟩ := hch.2 j B A cs[j] hB hA (List.getElem?_eq_getElem hjl)
      obtain ⟨g1, g2⟩ := rows_of_perm c1 c2 c3
      have etk : cs.take (j + 1) = cs.take j ++ [cs[j]] := take_snoc (List.getElem?_eq_getElem hjl)
      have edr : (cs.drop j).reverse = (cs.drop (j + 1)).reverse ++ [cs[j]] := by rw [List.drop_eq_getElem_cons hjl, List.reverse_cons]
      rw [etk] at in1
      have sf1 := in1.sh
      obtain ⟨dx, c, tx, sm, ld, lu, lw, rw0, ds, us, rfl, sh1⟩ := in1.sh
      have hs1 := (hid_some sh1.hs).2
      refine ⟨_, rfl, s, dx, _, rfl, hs1, s, bl, pl, A, _, _, _, _, rfl, sf1.kp0 (hid_sub ms H1), fun p rw2 H2 hp hpr k2 hp2 => ?_⟩
      have k02 := k1.trans (k2.any _)
      obtain ⟨fa, ea, hfa⟩ := dF k02 hA
      refine ⟨_, rfl, _, rfl, _, _, _, .ref fa, rfl, rfl, SqL.of (lF k02), ea, p, fa, dV tv rw2, dV tv A, rfl, rfl, hp2, hfa, .inl ⟨by rw [dV_length, dV_length]; exact hpr.length_eq, dict_perm' hpr c4.nd, _, rfl, ?_⟩⟩
      have in2 := in1.kp0 k2
      have hs2 := k2 _ _ hs1 (by simp)
      refine ⟨_, rfl, s, dx, _, rfl, hs2, rfl, s, bl, pl, A, cs.take j, _, cs[j], wo, am1, ms, _, rfl, in2, g1, c3.perm g2.symm, fun H3 o3 => ?_⟩
      obtain ⟨fp3, sh3, fr3, wh3, k3⟩ := o3
      refine ⟨_, rfl, _, _, rfl, rfl, rfl, _, rfl, ?_⟩
      have hlen : (cs.take j).length = j := by rw [List.length_take]; omega
      refine iteF' ?_ ?_
      · rw [hlen]
        show (!decide (V.int (j : Int) = V.int (((j + 1 : Nat) : Int) - 1))) = false
        have : (((j + 1 : Nat) : Int) - 1) = (j : Int) := by omega
        rw [this]
        simp
      have hle := len_putA am1 cs[j].n (cs[j].b.map (bhM bl pl))
      have k03 : Kp (fp ++ wms wo) H H3 := fun x o e hx => by
        have hx1 : x ∉ fp := fun z => hx (List.mem_append_left _ z)
        have hx2 : x ∉ wms wo := fun z => hx (List.mem_append_right _ z)
        refine k3 _ _ (k02 _ _ e hx) fun z => (List.mem_append.mp z).elim (fun y => ?_) hx2
        rcases fr1 x y with u | u
        · exact hx1 u
        · rw [e] at u; cases u
      refine ⟨⟨_, rfl⟩, ?_⟩
      have ej : N - (i + 1) = j := by omega
      rw [ej]
      refine ⟨B, putA am1 cs[j].n (cs[j].b.map (bhM bl pl)), fp3, hB, ?_, by omega, k03, fun x hx => ?_⟩
      · rw [edr]
        exact shin_next in2 (sh3.perm g2) wh3 k3 (by omega)
      · rcases fr3 x hx with z | z
        · exact fr1 x z
        · cases e : H x with
          | none => exact .inr rfl
          | some o =>
            left
            by_cases hx0 : x ∈ fp
            · exact hx0
            exfalso
            by_cases hxw : x ∈ wms wo
            · cases hwo : wo with
              | none => rw [hwo] at hxw; cases hxw
              | some Wt =>
                rw [hwo] at hxw
                have := (in2.wh Wt hwo).hm
                rw [← List.mem_singleton.mp hxw, z] at this
                cases this
            rw [k02 _ _ e (by simp [hx0, hxw])] at z
            cases z
    · rintro σ H1 ⟨⟨x, rfl⟩, A, am1, fp1, hA, in1, hal1, k1, fr1⟩
      rw [Nat.sub_self] at hA in1
      rw [hz] at hA
      cases hA
      have sf1 := in1.sh
      obtain ⟨dx, c, tx, sm, ld, lu, lw, rw0, ds, us, rfl, sh1⟩ := in1.sh
      have hs1 := (hid_some sh1.hs).2
      refine ⟨_, rfl, s, dx, _, rfl, hs1, s, bl, pl, [], _, _, _, _, rfl, sf1.kp0 (hid_sub ms H1), fun p rw2 H2 hp hpr k2 hp2 => fun p3 hp3 => ?_⟩
      have er : rw2 = [] := List.Perm.eq_nil hpr
      subst er
      have k3 : Kp [] H2 (upd H2 p3 (.dK [])) := (kp_refl H2).up (.inl hp3)
      have hp23 := k3 _ _ hp2 (by simp)
      have h33 : upd H2 p3 (.dK []) p3 = some (.dK []) := upd_same
      generalize upd H2 p3 (.dK []) = H3 at k3 hp23 h33
      refine ⟨p, p3, _, [], rfl, rfl, hp23, h33, .inl ⟨rfl, (fun q hq => by cases hq), _, rfl, ?_⟩⟩
      have k13 := k2.trans k3
      have in3 := in1.kp0 k13
      have sf3 := in3.sh.kp0 (hid_sub ms H3)
      have hs3 := k13 _ _ hs1 (by simp)
      refine ⟨_, rfl, s, dx, _, rfl, hs3, s, bl, pl, [], _, _, _, _, rfl, sf3, _, rfl, s, dx, _, rfl, hs3, s, bl, pl, [], _, _, _, _, rfl, sf3, _, rfl, s, dx, _, rfl, hs3, s, bl, pl, [], _, _, _, _, rfl, sf3, 0, rfl, by decide, by show 3 ≤ sizeLine; omega, fun p4 hp4 => ⟨by show 3 ≤ sizeLine; omega, fun p5 hp5 => ?_⟩⟩
      have k4 : Kp [] H3 (upd H3 p4 (.tup [.int (sumW (prM bl pl) []), .int (sumW (bhM bl pl) []), .int 0])) := (kp_refl H3).up (.inl hp4)
      have h44 : upd H3 p4 (.tup [.int (sumW (prM bl pl) []), .int (sumW (bhM bl pl) []), .int 0]) p4 = some (.tup [.int 0, .int 0, .int 0]) := upd_same
      have h45 : upd (upd H3 p4 (.tup [.int (sumW (prM bl pl) []), .int (sumW (bhM bl pl) []), .int 0])) p5 (.tup [.int 0, .int 0, .int 0]) p4 = some (.tup [.int 0, .int 0, .int 0]) := by
        rw [upd_ne (ne_of_none h44 hp5)]; exact h44
      have k5 : Kp [] H3 (upd (upd H3 p4 (.tup [.int (sumW (prM bl pl) []), .int (sumW (bhM bl pl) []), .int 0])) p5 (.tup [.int 0, .int 0, .int 0])) := k4.up (.inl (k4.free hp5 (by simp)))
      have h55 : upd (upd H3 p4 (.tup [.int (sumW (prM bl pl) []), .int (sumW (bhM bl pl) []), .int 0])) p5 (.tup [.int 0, .int 0, .int 0]) p5 = some (.tup [.int 0, .int 0, .int 0]) := upd_same
      refine ⟨.tuple [.int 0, .int 0, .int 0], .tuple [.int 0, .int 0, .int 0], .tup (SqT.of h45) (.cons (.int _) (.cons (.int _) (.cons (.int _) .nil))), .tup (SqT.of h55) (.cons (.int _) (.cons (.int _) (.cons (.int _) .nil))), by decide, by decide, _, rfl, ?_⟩
      refine iteF' (by decide) ?_
      -- forth
      have k15 := k13.trans k5
      have k05 := k1.trans (k15.any _)
      refine ⟨_, rfl, l, _, rfl, .inl (SqL.of (lF k05)), 1, ((N + 1 : Nat) : Int), ?_, ⟨by omega, by omega, by omega, by omega⟩, ?_⟩
      · show [V.int 1, V.int (((fas.map V.ref).length : Nat) : Int)] = _
        rw [List.length_map, hfl]
      rw [show (((N + 1 : Nat) : Int) - 1).toNat = N by omega]
      have hI5 : BkI P w K mg base CB CC CF H s bl pl wo ms fp Ss cs 0 200 _ := ⟨[], am1, _, hz, in1.kp0 k15, by omega, k05, fr1⟩
      refine for_range (lo := 1) (n := N) (fun i σ H' => (∃ x, σ = [some (.ref s), some (.ref l), x]) ∧ BkI P w K mg base CB CC CF H s bl pl wo ms fp Ss cs i (200 + i) H') ⟨⟨_, rfl⟩, hI5⟩ ?_ ?_
      · rintro i σ H6 hi ⟨⟨x, rfl⟩, B, am6, fp6, hB, in6, hal6, k6, fr6⟩
        have hil : i < cs.length := by omega
        obtain ⟨A, hA⟩ : ∃ A, Ss[i + 1]? = some A := ⟨_, List.getElem?_eq_getElem (by omega)⟩
        obtain ⟨c1, c2, c3, c4⟩ := hch.2 i B A cs[i] hB hA (List.getElem?_eq_getElem hil)
        have etk : cs.take (i + 1) = cs.take i ++ [cs[i]] := take_snoc (List.getElem?_eq_getElem hil)
        have edr : (cs.drop i).reverse = (cs.drop (i + 1)).reverse ++ [cs[i]] := by rw [List.drop_eq_getElem_cons hil, List.reverse_cons]
        rw [edr] at in6
        obtain ⟨dx, c, tx, sm, ld, lu, lw, rw0, ds, us, rfl, sh6⟩ := in6.sh
        have hs6 := (hid_some sh6.hs).2
        refine ⟨_, rfl, s, dx, _, rfl, hs6, rfl, s, bl, pl, B, cs.take i, _, cs[i], wo, am6, ms, _, rfl, in6, c1.symm, c4.perm c2, fun H7 o7 => ?_⟩
        obtain ⟨fp7, sh7, fr7, wh7, k7⟩ := o7
        have hlen : (cs.take i).length = i := by rw [List.length_take]; omega
        refine ⟨_, rfl, rfl, _, rfl, ?_⟩
        refine iteF' ?_ ?_
        · rw [hlen]
          show (!decide (V.int ((i : Int) + 1) = V.int (1 + ((i : Nat) : Int)))) = false
          rw [show ((i : Int) + 1) = 1 + ((i : Nat) : Int) by omega]
          simp
        have k07 : Kp (fp ++ wms wo) H H7 := fun x o e hx => by
          have hx1 : x ∉ fp := fun z => hx (List.mem_append_left _ z)
          have hx2 : x ∉ wms wo := fun z => hx (List.mem_append_right _ z)
          refine k7 _ _ (k6 _ _ e hx) fun z => (List.mem_append.mp z).elim (fun y => ?_) hx2
          rcases fr6 x y with u | u
          · exact hx1 u
          · rw [e] at u; cases u
        have fr07 : ∀ x ∈ fp7, x ∈ fp ∨ H x = none := fun x hx => by
          rcases fr7 x hx with z | z
          · exact fr6 x z
          · cases e : H x with
            | none => exact .inr rfl
            | some o =>
              left
              by_cases hx0 : x ∈ fp
              · exact hx0
              exfalso
              by_cases hxw : x ∈ wms wo
              · cases hwo : wo with
                | none => rw [hwo] at hxw; cases hxw
                | some Wt =>
                  rw [hwo] at hxw
                  have := (in6.wh Wt hwo).hm
                  rw [← List.mem_singleton.mp hxw, z] at this
                  cases this
              rw [k6 _ _ e (by simp [hx0, hxw])] at z
              cases z
        have hle := len_putA am6 cs[i].n (cs[i].a.map (bhM bl pl))
        have in7 := shin_next in6 (sh7.perm c2.symm) wh7 k7 (by omega)
        have sf7 := in7.sh
        obtain ⟨dx7, c7, tx7, sm7, ld7, lu7, lw7, rw7, ds7, us7, rfl, sha7⟩ := in7.sh
        have hs7 := (hid_some sha7.hs).2
        refine ⟨_, rfl, s, dx7, _, rfl, hs7, s, bl, pl, A, _, _, _, _, rfl, sf7.kp0 (hid_sub ms H7), fun p rw2 H8 hp hpr k8 hp8 => ?_⟩
        have k08 := k07.trans (k8.any _)
        obtain ⟨fa, ea, hfa⟩ := dF k08 hA
        have ev : (1 : Int) + ((i : Nat) : Int) = ((i + 1 : Nat) : Int) := by omega
        refine ⟨_, rfl, _, rfl, _, _, _, .ref fa, rfl, rfl, SqL.of (lF k08), by rw [ev]; exact ea, p, fa, dV tv rw2, dV tv A, rfl, rfl, hp8, hfa, .inl ⟨by rw [dV_length, dV_length]; exact hpr.length_eq, dict_perm' hpr c4.nd, _, rfl, ?_⟩⟩
        refine ⟨⟨_, rfl⟩, A, putA am6 cs[i].n (cs[i].a.map (bhM bl pl)), _, hA, ?_, by omega, k08, fr07⟩
        rw [etk]
        exact in7.kp0 k8
      · rintro σ H6 ⟨⟨x, rfl⟩, A, am6, fp6, hA, in6, hal6, k6, fr6⟩
        exact k H6 k6
end
end K75
-- part Q4a
set_option Elab.async false
set_option linter.all false
set_option maxRecDepth 100000
set_option maxHeartbeats 4000000
namespace K75
open PySem PySem.Spec PyProof.Rows L2
theorem ok_app {a b : Str} (ha : PyData.strOk a = true) (hb : PyData.strOk b = true) : PyData.strOk (a ++ b) = true := by
  unfold PyData.strOk at ha hb ⊢
  rw [← Array.all_toList, List.all_eq_true] at ha hb ⊢
  intro c hc
  have e : (a ++ b).cps.toList = a.cps.toList ++ b.cps.toList := by
    rw [Str.cps_append]
    simp
  rw [e] at hc
  rcases List.mem_append.mp hc with h | h
  · exact ha c h
  · exact hb c h
theorem ok_of (s : String) : PyData.strOk (Str.ofString s) = true := by
  unfold PyData.strOk
  rw [← Array.all_toList, List.all_eq_true]
  intro c hc
  rw [Str.ofString_eq_toList] at hc
  have hc2 : c ∈ s.toList.map Char.toNat := by simpa using hc
  obtain ⟨ch, _, rfl⟩ := List.mem_map.mp hc2
  have hv := ch.valid
  simp only [UInt32.isValidChar, Nat.isValidChar] at hv
  show decide (ch.val.toNat < 1114112) = true
  rw [decide_eq_true_iff]
  omega
theorem strM_ok (n t : Int) : PyData.strOk (strM n t) = true := ok_app (ok_app (ok_app (ok_app (by decide +kernel) (ok_of _)) (ok_of _)) (ok_of _)) (ok_of _)
/-- what the list told holds thrice -/
def toldD (a b : Int) (ns : List Tx0) (m : Int) : PyData := .tuple [.int a, .int b, .tuple (dTx ns), .str (strM m a)]
theorem told_lay {a b m : Int} {ns : List Tx0} (h : ∀ t ∈ ns, Lt t) : (toldD a b ns m).canLay0 = true := by
  unfold toldD
  simp only [PyData.canLay0, PyData.canLayAll0, (texts_lay ns h).1, strM_ok, Bool.and_self]
theorem told_shp {a b m : Int} {ns : List Tx0} (h : ∀ t ∈ ns, Lt t) : SeqAt.shaped (toldD a b ns m) = true := by
  unfold SeqAt.shaped
  refine Bool.and_eq_true_iff.mpr ⟨told_lay h, decide_eq_true ?_⟩
  have := (texts_lay ns h).2
  unfold toldD
  simp only [PyData.depth, PyData.depthAll]
  omega
def TldH (K : PySem.W.Frag) (H : Hp) (u : Addr) (a b : Int) (ns : List Tx0) (m : Int) : Prop := ∃ p, H u = some (.tup [.int a, .int b, .ref p, .str (strM m a)]) ∧ H p = some (.tup (ns.map tv))
theorem TldH.dp {K : PySem.W.Frag} {H : Hp} {u : Addr} {a b m : Int} {ns : List Tx0} (h : TldH K H u a b ns m) : Dp K H (.ref u) (toldD a b ns m) := by
  obtain ⟨p, h1, h2⟩ := h
  exact .tup (SqT.of h1) (.cons (.int _) (.cons (.int _) (.cons (.tup (SqT.of h2) (texts_dp ns)) (.cons (.str _) .nil))))
theorem TldH.kp {CF : Addr} {K : PySem.W.Frag} {D : List Addr} {H H' : Hp} {u : Addr} {a b m : Int} {ns : List Tx0} (h : TldH K H u a b ns m) (k : Kp D H H') (v : VolAt CF H D) : TldH K H' u a b ns m := by
  obtain ⟨p, h1, h2⟩ := h
  exact ⟨p, k.vol v h1 nv_tup, k.vol v h2 nv_tup⟩
end K75
-- part Q4
set_option Elab.async false
set_option linter.all false
set_option maxRecDepth 100000
set_option maxHeartbeats 4000000
namespace K75
open PySem PySem.Spec PyProof.Rows L2
theorem RowsOk.bk {bk bl : Bk} {m : Tb} (p : bl.Perm bk) (h : RowsOk bk m) : RowsOk bl m := ⟨h.nd, h.le, h.nm, fun q hq => ⟨ov_perm p (h.tx q hq).1, (h.tx q hq).2⟩⟩
/-- the same plan, one sign wider -/
def wide (pl : Pl) : Pl := { pl with span := pl.span + 1 }
theorem GoodTb.more {bk : Bk} {n m : Nat} {t : Tb} (h : GoodTb bk n t) (l : n ≤ m) : GoodTb bk m t := ⟨h.nd, h.le, h.ov, fun p hp => ⟨(h.ln p hp).1, Nat.le_trans (h.ln p hp).2 l⟩, h.pc, h.bg⟩
theorem good_wide {bk : Bk} {pl : Pl} (g : GoodPl bk pl) (h : pl.span ≤ 9) : GoodPl bk (wide pl) :=
  ⟨g.od, by show 1 ≤ pl.span + 1; omega, by show pl.span + 1 ≤ 2000; omega, g.rw.more (Nat.le_succ _), g.la.more (by show pl.span - 1 ≤ pl.span + 1 - 1; omega)⟩
/-- the rows that were taken over so far -/
def rowsOf (S : Tb) (ns : List Tx0) : Tb := ns.map fun n => (n, (getA S n).getD [])
theorem rowsOf_keys (S : Tb) (ns : List Tx0) : (rowsOf S ns).map (·.1) = ns := by
  unfold rowsOf
  rw [List.map_map]
  exact List.map_id _
theorem rowsOf_perm {S : Tb} {ns : List Tx0} (nd : (S.map (·.1)).Nodup) (p : ns.Perm (S.map (·.1))) : (rowsOf S ns).Perm S := tb_dict (ls := S) nd p
/-- a shelf that nobody watches -/
theorem shin_free {P : Program} {w : World} {K : PySem.W.Frag} {mg : Str → Option Value} {base : Heap} {CB CC CF : Addr} {H : Hp} {s : Addr} {bk : Bk} {pl : Pl} {rows : Tb} {dn ud : List Chg} {fp : List Addr} (h : ShelfH CB CC CF H s bk pl rows dn ud [] fp) : ShIn P w K mg base CB CC CF H s bk pl rows dn ud none [] [] fp :=
  ⟨by rw [hid_nil]; exact h, (fun W e => by cases e), (fun W e => by cases e), (fun W e => by cases e), (fun x hx => by cases hx), Nat.zero_le _⟩
theorem shout_free {CB CC CF : Addr} {H H' : Hp} {s : Addr} {bk : Bk} {pl : Pl} {rows : Tb} {dn ud : List Chg} {am : Am} {fp : List Addr} (h : ShOut CB CC CF H s bk pl rows dn ud none am [] fp H') : ∃ fp', ShelfH CB CC CF H' s bk pl rows dn ud [] fp' ∧ (∀ x ∈ fp', x ∈ fp ∨ H x = none) ∧ Kp fp H H' := by
  obtain ⟨fp', a, b, _, d⟩ := h
  rw [hid_nil] at a
  exact ⟨fp', a, b, d.sub (by simp [wms])⟩
section
variable {P : Program} {w : World} {K : PySem.W.Frag} {mg : Str → Option Value} {base : Heap} {CB CC CF : Addr}
def sp_others (CB CC CF : Addr) : Sp := fun vs H Q _ => ∃ (r q d o tb en s f : Addr) (bk bl : Bk) (pl : Pl) (S : Tb) (dn : List Chg) (wf fp : List Addr),
  vs = [.ref r, .ref q, .ref s, .ref f] ∧ Reel H r ∧ GoodBook bk ∧ GoodPl bk pl ∧ pl.span ≤ 9 ∧ PlanH H q d o tb en bk pl ∧ bl.Perm bk ∧ ShelfH CB CC CF H s bl pl S dn [] wf fp ∧ H f = some (.dK (dV tv S)) ∧ S ≠ [] ∧ (∀ p ∈ S, p.2.length ≤ 1000) ∧ r ∉ fp ∧
  ∀ H', Kp [r] H H' → Q (.bl true) H'
theorem c_others (T : Ty K mg CB CC CF) : C8.Cal P w K mg base 10 "_law_others_right" (sp_others CB CC CF) [] := by
  refine cal_of T.d_others_right sc_others_right (fun _ _ _ _ _ _ us hl => match us, hl with | [_, _, _, _], _ => rfl) (fun vs H Q E h => ?_) (fun cdv A outer fa s0 H vs Q E hr h => ?_)
  · obtain ⟨r, q, d, o, tb, en, s, f, bk, bl, pl, S, dn, wf, fp, rfl, _⟩ := h
    rfl
  · obtain ⟨r, q, d, o, tb, en, s, f, bk, bl, pl, S, dn, wf, fp, rfl, hR, g, gp, hsp, hp, hperm, hsh, hf, hne, hlen, nrf, k⟩ := h
    have h3 : sizeLine = 16777216 := sizeLine_eq
    obtain ⟨fm, fdm, M, F, hm, g0, hkb⟩ := mks_full (P := P) (w := w) (base := base) T
    refine ⟨_, (pss_cons (ps_set (i := 4) sc_others_right.nd rfl (Or.inl rfl) (pe_makeK M F (hr.mono (by decide)) (by rfl) hm hkb pass0 (pa_cons (C8.pe_c (c_cutter T) hr (by decide) (by rfl) (pa_cons (pv 1) pa_nil)) pa_nil) (pk_cons (pe_callTy cr_dictD (by rfl) T.n_dict (by decide +kernel) (pa_cons (pv 3) pa_nil)) pk_nil)))
  (pss_cons (ps_set (i := 5) sc_others_right.nd rfl (Or.inl rfl) (C8.pe_mk (mks_pos T) hr (by decide) (by rfl) (pa_cons (C8.pe_c (c_cutter T) hr (by decide) (by rfl) (pa_cons (pv 1) pa_nil)) pa_nil)))
  (pss_cons (ps_for PassesOwn.never rfl (pi_list (C8.pe_c (c_some T.toTx) hr (by decide) (by rfl) (pa_cons (pv 0) (pa_cons (pe_callB cr_sortedS (by rfl) T.n_sorted (by decide +kernel) (pa_cons (pe_callTy (call_listD rfl) (by rfl) T.n_list (by decide +kernel) (pa_cons (pv 3) pa_nil)) pa_nil)) (pa_cons (pe_callB call_lenD (by rfl) T.n_len (by decide +kernel) (pa_cons (pv 3) pa_nil)) pa_nil))))) (pg_name (i := 6) sc_others_right.nd rfl (Or.inl rfl))
    (pss_cons (ps_set (i := 7) sc_others_right.nd rfl (Or.inl rfl) (pe_dget (hu1 hr) (pv 3) (pv 6) (fun _ _ => rfl)))
    (pss_cons (ps_set (i := 8) sc_others_right.nd rfl (Or.inl rfl) (C8.pe_c (c_spin T.toTx) hr (by decide) (by rfl) (pa_cons (pv 0) (pa_cons (pe_op op_add (pe_callB call_lenT (by rfl) T.n_len (by decide +kernel) (pa_cons (pv 7) pa_nil)) pe_int) pa_nil))))
    (pss_cons (ps_expr (C8.pe_mt (c_Shelf_put T) hr (by decide) (pv 5) (pa_cons (pv 6) (pa_cons (pe_op op_add_str (pe_slice sl_tx (pv 7) (po_some (pv 8)) po_none) (pe_slice sl_tx (pv 7) po_none (po_some pe_int))) pa_nil))))
    (pss_cons (ps_expr (C8.pe_mt (c_Shelf_edit T) hr (by decide) (pv 5) (pa_cons (pv 6) (pa_cons (pe_op op_sub (pe_callB call_lenT (by rfl) T.n_len (by decide +kernel) (pa_cons (pv 7) pa_nil)) (pv 8)) (pa_cons (pe_callB call_lenT (by rfl) T.n_len (by decide +kernel) (pa_cons (pe_op op_add_str (pe_slice sl_tx (pv 7) (po_some (pv 8)) po_none) (pe_slice sl_tx (pv 7) po_none (po_some pe_int))) pa_nil)) (pa_cons pe_str pa_nil))))))
    (pss_one (ps_expr (C8.pe_mt (c_Shelf_edit T) hr (by decide) (pv 5) (pa_cons (pv 6) (pa_cons pe_int (pa_cons pe_int (pa_cons (pe_slice sl_tx (pv 7) po_none (po_some (pv 8))) pa_nil))))))))))))
  (pss_cons (ps_if (PW.pt (pw_or (pt_cmpR (op_neO (c_ShelfE T) T.ne_Shelf hr (by decide)) (pv 2) (pv 4) (nomark _)) (pw_or (pt_cmpR (op_neO (c_ShelfE T) T.ne_Shelf hr (by decide)) (pv 4) (pv 2) (nomark _)) (pw_or (pt_cmpR (op_neO (c_ShelfE T) T.ne_Shelf hr (by decide)) (pv 2) (pv 5) (nomark _)) (pw_or1 (pt_cmpR (op_ne_dictB hr.units0) (pe_pr (c_Shelf_texts T) hr (by decide) (pv 5)) (pv 3) (nomark _)))))))
    (pss_one (ps_ret pe_bl))
    pss_nil)
  (pss_cons (ps_setLc (i := 9) (own := [("one", 11)]) (g := gName 11) rfl sc_others_right.nd rfl rfl (sw_true rfl rfl rfl (by decide +kernel)) (pi_tup (pe_tup (pa_cons (pv 2) (pa_cons (pv 4) (pa_cons (pv 5) pa_nil))))) (blkOk_by (own := [("one", 11)]) (N := N_others_right) (sc := (defScope s_others_right)) (by decide +kernel)) (fun _ _ _ _ _ => (pg_name (i := 11) sc_others_right.nd rfl (Or.inl rfl))) (fun _ _ _ _ _ => pts_nil) (fun _ _ _ _ _ => (pe_tup (pa_cons (pe_pr (c_Shelf_total T) hr (by decide) (pv 11)) (pa_cons (pe_pr (c_Shelf_lag T) hr (by decide) (pv 11)) (pa_cons (pe_pr (c_Shelf_names T) hr (by decide) (pv 11)) (pa_cons (pe_callTy (cr_strO (c_Shelf_str T) hr (by decide)) (by rfl) T.n_str (by decide +kernel) (pa_cons (pv 11) pa_nil)) pa_nil)))))))
  (pss_cons (ps_expr (C8.pe_mt (c_Shelf_drop T) hr (by decide) (pv 5) (pa_cons (pe_ix (ix_listK (K := K) rfl) (pe_callB cr_sortedS (by rfl) T.n_sorted (by decide +kernel) (pa_cons (pe_callTy (call_listD rfl) (by rfl) T.n_list (by decide +kernel) (pa_cons (pv 3) pa_nil)) pa_nil)) pe_int (fun _ _ => rfl)) pa_nil)))
  (pss_cons (ps_if (PW.pt (pw_or (pt_cmpR (op_neD hr.units) (pe_ix (ix_listK (K := K) rfl) (pv 9) pe_int (fun _ _ => rfl)) (pe_ix (ix_listK (K := K) rfl) (pv 9) pe_int (fun _ _ => rfl)) (nomark _)) (pw_or1 (pt_cmpR (op_neD hr.units) (pe_ix (ix_listK (K := K) rfl) (pv 9) pe_int (fun _ _ => rfl)) (pe_ix (ix_listK (K := K) rfl) (pv 9) pe_int (fun _ _ => rfl)) (nomark _)))))
    (pss_one (ps_ret pe_bl))
    pss_nil)
  (pss_cons (ps_set (i := 10) sc_others_right.nd rfl (Or.inl rfl) (pe_callTy cr_dictD (by rfl) T.n_dict (by decide +kernel) (pa_cons (pv 1) pa_nil)))
  (pss_cons (ps_dput (hu1 hr) (pv 10) pe_str (pe_op op_add (pe_dget (hu1 hr) (pv 1) pe_str (fun _ _ => rfl)) pe_int) rfl)
  (pss_cons (ps_if (pt_cmpR (op_eqO (c_ShelfE T) hr (by decide)) (pv 2) (pe_makeK M F (hr.mono (by decide)) (by rfl) hm hkb pass0 (pa_cons (C8.pe_c (c_cutter T) hr (by decide) (by rfl) (pa_cons (pv 10) pa_nil)) pa_nil) (pk_cons (pe_callTy cr_dictD (by rfl) T.n_dict (by decide +kernel) (pa_cons (pv 3) pa_nil)) pk_nil)) (nomark _))
    (pss_one (ps_ret pe_bl))
    pss_nil)
  (pss_one (ps_ret (pe_and (pe_cmpR (op_neO (c_ShelfE T) T.ne_Shelf hr (by decide)) (pv 5) (pv 2) (nomark _)) (pe_one (pe_not (pe_cmpR (op_eqO (c_ShelfE T) hr (by decide)) (pv 5) (pv 4) (nomark _))))))))))))))))), ?_⟩
    have okS : RowsOk bl S := by
      obtain ⟨dx, c, tx, sm, ld, lu, lw, rw, ds, us, rfl, a⟩ := hsh
      exact a.ok
    have vfp := hsh.vol
    have vr : VolAt CF H [r] := vol_reel hR
    -- made
    refine ⟨_, rfl, q, d, o, tb, en, bk, pl, rfl, g, hp, gp, fun c1 bl1 H1 hb1 hc1 k1 => ?_⟩
    have hf1 := k1 _ _ hf (by simp)
    refine ⟨_, rfl, f, _, rfl, hf1, fun dd hdd => ⟨rfl, rfl, fun x dx hx hdx hnx => ?_⟩⟩
    obtain ⟨hxf, nxd⟩ := none_of_upd hx
    have k1d : Kp [] H1 (hid [dd] (upd H1 dd (.dK (dV tv S)))) := hid_new hdd
    have k23 : Kp [] (upd H1 dd (.dK (dV tv S))) (upd (upd (upd H1 dd (.dK (dV tv S))) dx (.own x)) x (.ins CF dx [])) := ((kp_refl _).up (.inl hdx)).up (.inl hx)
    have kall : Kp [] H1 (upd (upd (upd H1 dd (.dK (dV tv S))) dx (.own x)) x (.ins CF dx [])) := ((kp_refl H1).up (.inl hdd)).trans k23
    refine ⟨x, dx, c1, .ref dd, bl1, pl, S, rfl, upd_same, hc1.kp0 (k1d.trans (hid_kp k23 fun y hy => by cases hy)), .inl ⟨dd, rfl, k23 _ _ upd_same (by simp)⟩, okS.bk (hb1.trans hperm.symm), fun H2 fpm shm frm k2 => ⟨rfl, ?_⟩⟩
    have k12 : Kp [] H1 H2 := kp_fresh ((kall.any [x]).trans k2) (fun y hy => by rw [List.mem_singleton.mp hy]; exact .inr hxf)
    have k02 : Kp [] H H2 := k1.trans k12
    have frm0 : ∀ y ∈ fpm, H y = none := fun y hy => by
      rcases frm y hy with z | z
      · rw [z]; exact k1.free hxf (by simp)
      · exact k1.free (kall.free z (by simp)) (by simp)
    clear k23 kall k1d
    -- other
    refine ⟨_, rfl, q, d, o, tb, en, bk, pl, rfl, g, hp.kp0 k02, gp, fun c2 bl2 H3 hb2 hc2 k3 => fun x2 dx2 hx2 hdx2 hnx2 => ?_⟩
    have kall2 : Kp [] H3 (upd (upd H3 dx2 (.own x2)) x2 (.ins CF dx2 [])) := ((kp_refl H3).up (.inl hdx2)).up (.inl hx2)
    refine ⟨x2, dx2, c2, .non, bl2, pl, [], rfl, upd_same, by show CutH CB CC (hid [] _) c2 bl2 pl; rw [hid_nil]; exact hc2.kp0 kall2, .inr ⟨rfl, rfl⟩, ⟨List.nodup_nil, Nat.zero_le _, (fun p hp => by cases hp), (fun p hp => by cases hp)⟩, fun H4 fpo sho fro k4 => ⟨rfl, ?_⟩⟩
    have k24 : Kp [] H2 H4 := k3.trans (kp_fresh ((kall2.any [x2]).trans k4) (fun y hy => by rw [List.mem_singleton.mp hy]; exact .inr hx2))
    have k04 : Kp [] H H4 := k02.trans k24
    have fro2 : ∀ y ∈ fpo, H2 y = none := fun y hy => by
      rcases fro y hy with z | z
      · rw [z]; exact k3.free hx2 (by simp)
      · exact k3.free (kall2.free z (by simp)) (by simp)
    clear kall2
    have shm4 := shm.kp0 k24
    have sh4 := hsh.kp0 k04
    have hp4 := hp.kp0 k04
    have hf4 := k04 _ _ hf (by simp)
    have hR4 := hR.kp k04
    have hb12 : bl.Perm bl1 := hperm.trans hb1.symm
    have hb22 : bl.Perm bl2 := hperm.trans hb2.symm
    clear k3 k12 hc1 hc2
    have okS2 : RowsOk bl2 S := okS.bk hb22.symm
    have hS50 := okS.le
    -- the names, in some order
    refine ⟨_, rfl, _, rfl, f, _, rfl, .inl hf4, fun p1 hp1 => ?_⟩
    have ek : ((dV tv S).map fun kv => kV kv.1) = ((S.map (·.1)).map SX.S).map V.str := by
      unfold dV
      rw [List.map_map, List.map_map, List.map_map]
      rfl
    rw [ek]
    have k45 : Kp [] H4 (upd H4 p1 (.lst (((S.map (·.1)).map SX.S).map V.str))) := (kp_refl H4).up (.inl hp1)
    have hp15 : upd H4 p1 (.lst (((S.map (·.1)).map SX.S).map V.str)) p1 = some (.lst (((S.map (·.1)).map SX.S).map V.str)) := upd_same
    generalize upd H4 p1 (.lst (((S.map (·.1)).map SX.S).map V.str)) = H5 at k45 hp15
    refine ⟨p1, (S.map (·.1)).map SX.S, rfl, SqL.of hp15, by rw [List.length_map, List.length_map]; omega, fun ys p2 hys hso hp2 => ?_⟩
    obtain ⟨ls, rfl, hls, hsr⟩ := perm_S hys hso
    have k56 : Kp [] H5 (upd H5 p2 (.lst ((ls.map SX.S).map V.str))) := (kp_refl H5).up (.inl hp2)
    have hp26 : upd H5 p2 (.lst ((ls.map SX.S).map V.str)) p2 = some (.lst (ls.map tv)) := by rw [upd_same, List.map_map]; rfl
    generalize upd H5 p2 (.lst ((ls.map SX.S).map V.str)) = H6 at k56 hp26
    have k46 := k45.trans k56
    have hlsl := hls.length_eq
    rw [List.length_map] at hlsl
    have hR6 := hR4.kp k46
    refine ⟨_, rfl, f, dV tv S, rfl, k46 _ _ hf4 (by simp), r, .ref p2, ls, S.length, by rw [dV_length]; rfl, hR6, .inr ⟨p2, rfl, SqL.of hp26⟩, by omega, by omega, fun qn fs rest H7 hqn hfr hfl k7 hR7 hqn7 => ?_⟩
    have hfl2 : fs.length = S.length := by rw [hfl, hlsl]; exact Nat.min_self _
    have hrest : rest = [] := by
      have := hfr.length_eq
      rw [List.length_append] at this
      exact List.length_eq_zero_iff.mp (by omega)
    rw [hrest, List.append_nil] at hfr
    have hfs : fs.Perm (S.map (·.1)) := hfr.trans hls
    have hfnd : fs.Nodup := hfs.nodup_iff.mpr okS.nd
    have k47 : Kp [r] H4 H7 := (k46.any [r]).trans k7
    have vr4 : VolAt CF H4 [r] := vol_reel hR4
    have nrfo : r ∉ fpo := fun z => by
      have := fro2 r z
      obtain ⟨a1, a2, a3, e⟩ := hR.kp k02
      rw [this] at e
      cases e
    have hqn4 : H4 qn = none := k46.free hqn (by simp)
    have sho7 := sho.kp k47 vr4 T.n_BF T.n_CF (fun y hy hn => nrfo (by rw [← List.mem_singleton.mp hn]; exact hy))
    have nqr : qn ≠ r := (hR6.ne hqn).symm
    have nqfo : qn ∉ fpo := fun z => by
      obtain ⟨o2, e2, _⟩ := sho.vol qn z
      rw [hqn4] at e2
      cases e2
    refine ⟨qn, rfl, ⟨_, SqL.of hqn7⟩, ?_⟩
    have hf7 : H7 f = some (.dK (dV tv S)) := k47.vol vr4 hf4 nv_dK
    refine for_it (walk_list (K := K) (a := qn) (xs := fs.map tv)) (fun i σ H' => ∃ (x6 x7 x8 : Option V) (dn2 : List Chg) (fp2 : List Addr), σ = [some (.ref r), some (.ref q), some (.ref s), some (.ref f), some (.ref x), some (.ref x2), x6, x7, x8, none, none, none] ∧ Kp ([r] ++ fpo) H7 H' ∧ Reel H' r ∧ ShelfH CB CC CF H' x2 bl2 pl (rowsOf S (fs.take i)) dn2 [] [] fp2 ∧ (∀ y ∈ fp2, y ∈ fpo ∨ H7 y = none) ∧ dn2.length ≤ 3 * i)
      ⟨none, none, none, [], fpo, rfl, kp_refl H7, hR7, sho7, fun y hy => .inl hy, Nat.zero_le _⟩ (fun i σ H' _ h => ?_) ?_ ?_
    · obtain ⟨_, _, _, _, _, _, kk, _⟩ := h
      exact SqL.of (kk _ _ hqn7 (fun z => (List.mem_append.mp z).elim (fun y => nqr (List.mem_singleton.mp y)) nqfo))
    · rintro i xv σ Ha Hb hi ⟨x6, x7, x8, dn2, fp2, rfl, kk, hRa, sha, fra, hdl⟩ ⟨rfl, hxv⟩
      rw [List.length_map] at hi
      rw [List.getElem?_map, List.getElem?_eq_getElem hi] at hxv
      obtain rfl : xv = tv fs[i] := (Option.some.inj hxv).symm
      obtain ⟨nm, enm⟩ : ∃ nm, nm = fs[i] := ⟨_, rfl⟩
      rw [← enm]
      have v7 : VolAt CF H7 ([r] ++ fpo) := fun y hy => (List.mem_append.mp hy).elim (vol_reel hR7 y) (sho7.vol y)
      have hfa : Hb f = some (.dK (dV tv S)) := kk.vol v7 hf7 nv_dK
      have hnS : nm ∈ S.map (·.1) := hfs.mem_iff.mp (by rw [enm]; exact List.getElem_mem hi)
      obtain ⟨t, ht⟩ := getA_of_mem hnS
      have hmS := getA_some ht
      have hnm := okS.nm _ hmS
      have hovt : Ov bl2 t := (okS2.tx _ hmS).1
      have htl : t.length ≤ 1000 := hlen _ hmS
      have hnot : nm ∉ (rowsOf S (fs.take i)).map (·.1) := by
        rw [rowsOf_keys]
        intro hz
        have nd2 := hfnd
        rw [← List.take_append_drop i fs, List.drop_eq_getElem_cons hi] at nd2
        exact (List.nodup_append.mp nd2).2.2 nm hz fs[i] (List.mem_cons_self ..) enm
      have erow : rowsOf S (fs.take (i + 1)) = rowsOf S (fs.take i) ++ [(nm, t)] := by
        unfold rowsOf
        rw [take_snoc (List.getElem?_eq_getElem hi), List.map_append, ← enm]
        simp [ht]
      rw [erow]
      have hRl : (rowsOf S (fs.take i)).length = i := by
        unfold rowsOf
        rw [List.length_map, List.length_take]
        omega
      obtain ⟨R, eR⟩ : ∃ R, R = rowsOf S (fs.take i) := ⟨_, rfl⟩
      rw [← eR] at sha hnot hRl ⊢
      have okR : RowsOk bl2 R := by
        obtain ⟨dx0, c0, tx0, sm0, ld0, lu0, lw0, rw0, ds0, us0, rfl, a0⟩ := sha
        exact a0.ok
      have nrf2 : r ∉ fp2 := fun z => (fra r z).elim nrfo fun y => by
        obtain ⟨a1, a2, a3, e⟩ := hR7
        rw [e] at y
        cases y
      -- text, spot
      refine ⟨_, rfl, _, rfl, f, tv t, rfl, dget_S hfa ht, ?_⟩
      refine ⟨_, rfl, _, rfl, _, rfl, by omega, _, _, rfl, rfl, r, (t.length : Int) + 1, rfl, hRa, by omega, by omega, fun v a1 a2 a3 h0 h1 => ?_⟩
      obtain ⟨m, rfl⟩ : ∃ m : Nat, v = m := ⟨v.toNat, by omega⟩
      have kv : Kp [r] Hb (upd Hb r (.lst [.int a1, .int a2, .int a3])) := (kp_refl Hb).up (.inr (by simp))
      have hR8 : Reel (upd Hb r (.lst [.int a1, .int a2, .int a3])) r := reel_same a1 a2 a3
      generalize upd Hb r (.lst [.int a1, .int a2, .int a3]) = H8 at kv hR8
      have sh8 := sha.kp kv (vol_reel hRa) T.n_BF T.n_CF (fun y hy hn => nrf2 (by rw [← List.mem_singleton.mp hn]; exact hy))
      have hs8 : ∃ dx0 c0 tx0 sm0 ld0 lu0 lw0, H8 x2 = some (ShO CF dx0 c0 tx0 sm0 ld0 lu0 lw0) := by
        obtain ⟨dx0, c0, tx0, sm0, ld0, lu0, lw0, rw0, ds0, us0, _, a0⟩ := sh8
        exact ⟨_, _, _, _, _, _, _, a0.hs⟩
      obtain ⟨dx8, cq8, tq8, mq8, dq8, uq8, wq8, hs8⟩ := hs8
      have l1 : (t.drop m ++ t.take 1).length ≤ t.length - m + 1 := by
        rw [List.length_append, List.length_drop, List.length_take]
        omega
      have ov1 : Ov bl2 (t.drop m ++ t.take 1) := ov_app (ov_drop hovt _) (ov_take hovt _)
      -- put
      refine ⟨_, rfl, x2, dx8, _, rfl, hs8, rfl, _, rfl, _, rfl, _, rfl, _, rfl, _, rfl, by omega, .inr (.inl ⟨rfl, m, rfl, ?_⟩)⟩
      refine ⟨_, rfl, _, rfl, _, rfl, by omega, .inl ⟨rfl, 1, rfl, ?_⟩⟩
      refine ⟨_, _, rfl, rfl, ?_, ?_⟩
      · rw [SX.S_len, SX.S_len, List.length_drop, List.length_take]
        omega
      rw [SX.S_cat]
      have ok1 := okR.put hnm ov1 (by omega) (.inr (by omega))
      refine ⟨x2, bl2, pl, R, dn2, [], none, [], [], fp2, nm, t.drop m ++ t.take 1, rfl, shin_free sh8, hnm, ov1, by omega, ok1, by omega, fun H9 o9 => ?_⟩
      obtain ⟨fp9, sh9, fr9, k9⟩ := shout_free o9
      have hs9 : ∃ dx0 c0 tx0 sm0 ld0 lu0 lw0, H9 x2 = some (ShO CF dx0 c0 tx0 sm0 ld0 lu0 lw0) := by
        obtain ⟨dx0, c0, tx0, sm0, ld0, lu0, lw0, rw0, ds0, us0, _, a0⟩ := sh9
        exact ⟨_, _, _, _, _, _, _, a0.hs⟩
      obtain ⟨dx9, cq9, tq9, mq9, dq9, uq9, wq9, hs9⟩ := hs9
      -- edit
      refine ⟨_, rfl, x2, dx9, _, rfl, hs9, rfl, _, rfl, _, rfl, _, rfl, by omega, _, rfl, _, _, rfl, rfl, _, rfl, _, rfl, _, rfl, _, rfl, by omega, .inr (.inl ⟨rfl, m, rfl, ?_⟩)⟩
      refine ⟨_, rfl, _, rfl, _, rfl, by omega, .inl ⟨rfl, 1, rfl, ?_⟩⟩
      refine ⟨_, _, rfl, rfl, ?_, ?_⟩
      · rw [SX.S_len, SX.S_len, List.length_drop, List.length_take]
        omega
      rw [SX.S_cat]
      refine ⟨_, rfl, by omega, ?_⟩
      have et2 : (t.drop m ++ t.take 1).take (t.length - m) ++ [] ++ (t.drop m ++ t.take 1).drop (t.drop m ++ t.take 1).length = t.drop m := by
        rw [List.append_nil, List.drop_length, List.append_nil, List.take_append_of_le_length (by rw [List.length_drop]; omega), List.take_of_length_le (by rw [List.length_drop]; omega)]
      have ok2 : RowsOk bl2 (putR (putR R nm (some (t.drop m ++ t.take 1))) nm (some ((t.drop m ++ t.take 1).take (t.length - m) ++ [] ++ (t.drop m ++ t.take 1).drop (t.drop m ++ t.take 1).length))) := by
        rw [put_put, et2]
        exact okR.put hnm (ov_drop hovt _) (by rw [List.length_drop]; omega) (.inr (by omega))
      refine ⟨x2, bl2, pl, putR R nm (some (t.drop m ++ t.take 1)), dn2 ++ [⟨nm, getA R nm, some (t.drop m ++ t.take 1)⟩], [], none, [], [], fp9, nm, t.drop m ++ t.take 1, [], t.length - m, (t.drop m ++ t.take 1).length, ?_, shin_free sh9, get_put okR.nd, ov_nil, ?_, Nat.le_refl _, by simp only [List.length_nil]; omega, ok2, by rw [List.length_append, List.length_singleton]; omega, fun z gA mA ix gone came H10 hz o10 _ _ _ _ => ?_⟩
      · show [V.ref x2, tv nm, V.int ((t.length : Int) - (m : Int)), _, _] = _
        rw [show ((t.length : Int) - (m : Int)) = ((t.length - m : Nat) : Int) by omega]
        rfl
      · rw [List.length_append, List.length_drop]
        omega
      obtain ⟨fp10, sh10, fr10, k10⟩ := shout_free o10
      rw [put_put, et2] at sh10
      have hs10 : ∃ dx0 c0 tx0 sm0 ld0 lu0 lw0, H10 x2 = some (ShO CF dx0 c0 tx0 sm0 ld0 lu0 lw0) := by
        obtain ⟨dx0, c0, tx0, sm0, ld0, lu0, lw0, rw0, ds0, us0, _, a0⟩ := sh10
        exact ⟨_, _, _, _, _, _, _, a0.hs⟩
      obtain ⟨dx10, cq10, tq10, mq10, dq10, uq10, wq10, hs10⟩ := hs10
      -- edit
      refine ⟨_, rfl, x2, dx10, _, rfl, hs10, rfl, _, rfl, _, rfl, _, rfl, _, rfl, _, rfl, by omega, .inl ⟨rfl, m, rfl, ?_⟩⟩
      have et3 : (t.drop m).take 0 ++ t.take m ++ (t.drop m).drop 0 = t := by
        rw [List.take_zero, List.nil_append, List.drop_zero, List.take_append_drop]
      have ok3 : RowsOk bl2 (putR (putR R nm (some (t.drop m))) nm (some ((t.drop m).take 0 ++ t.take m ++ (t.drop m).drop 0))) := by
        rw [put_put, et3]
        exact okR.put hnm hovt (by omega) (.inr (by omega))
      refine ⟨x2, bl2, pl, putR R nm (some (t.drop m)), _, [], none, [], [], fp10, nm, t.drop m, t.take m, 0, 0, rfl, shin_free sh10, get_put okR.nd, ov_take hovt _, Nat.le_refl _, Nat.zero_le _, by rw [List.length_drop, List.length_take]; omega, ok3, by rw [List.length_append, List.length_append, List.length_singleton, List.length_singleton]; omega, fun z gA mA ix gone came H11 hz o11 _ _ _ _ => ?_⟩
      obtain ⟨fp11, sh11, fr11, k11⟩ := shout_free o11
      rw [put_put, et3, put_new hnot] at sh11
      -- back at the top
      have step : ∀ {A B : List Addr} {Hx Hy : Hp}, (∀ y ∈ A, y ∈ fpo ∨ H7 y = none) → (∀ y ∈ B, y ∈ A ∨ Hx y = none) → Kp ([r] ++ fpo) H7 Hx → Reel Hx r → Kp A Hx Hy → r ∉ A → (∀ y ∈ B, y ∈ fpo ∨ H7 y = none) ∧ Kp ([r] ++ fpo) H7 Hy ∧ Reel Hy r ∧ r ∉ B := fun {A B Hx Hy} hA hB kA hRA kAB hrA => by
        have hRy : Reel Hy r := by
          obtain ⟨b1, b2, b3, eb⟩ := hRA
          exact ⟨b1, b2, b3, kAB _ _ eb hrA⟩
        refine ⟨fun y hy => ?_, fun y o e hn => ?_, hRy, fun hr => (hB r hr).elim hrA fun z => ?_⟩
        · rcases hB y hy with z | z
          · exact hA y z
          · cases e : H7 y with
            | none => exact .inr rfl
            | some o =>
              left
              by_cases hyf : y ∈ fpo
              · exact hyf
              exfalso
              by_cases hyr : y = r
              · subst hyr
                obtain ⟨b1, b2, b3, eb⟩ := hRA
                rw [eb] at z
                cases z
              rw [kA _ _ e (fun hm => (List.mem_append.mp hm).elim (fun q => hyr (List.mem_singleton.mp q)) hyf)] at z
              cases z
        · refine kAB _ _ (kA _ _ e hn) fun hm => ?_
          rcases hA y hm with z | z
          · exact hn (List.mem_append_right _ z)
          · rw [e] at z; cases z
        · obtain ⟨b1, b2, b3, eb⟩ := hRA
          rw [eb] at z
          cases z
      have k78 : Kp ([r] ++ fpo) H7 H8 := kk.trans (kv.sub (fun y hy => List.mem_append_left _ hy))
      obtain ⟨fa9, ka9, ra9, na9⟩ := step fra fr9 k78 hR8 k9 nrf2
      obtain ⟨fa10, ka10, ra10, na10⟩ := step fa9 fr10 ka9 ra9 k10 na9
      obtain ⟨fa11, ka11, ra11, na11⟩ := step fa10 fr11 ka10 ra10 k11 na10
      refine ⟨_, _, _, _, fp11, rfl, ka11, ra11, sh11, fa11, ?_⟩
      rw [List.length_append, List.length_append, List.length_append, List.length_singleton, List.length_singleton, List.length_singleton]
      omega
    · rintro σ H8 ⟨x6, x7, x8, dn2, fp2, rfl, kk, hR8, sho8, fra, hdl⟩
      rw [List.length_map, List.take_length] at sho8
      rw [List.length_map] at hdl
      have pro : (rowsOf S fs).Perm S := rowsOf_perm okS.nd hfs
      have sho8 := sho8.perm pro
      have v7 : VolAt CF H7 ([r] ++ fpo) := fun y hy => (List.mem_append.mp hy).elim (vol_reel hR7 y) (sho7.vol y)
      have hf8 : H8 f = some (.dK (dV tv S)) := kk.vol v7 hf7 nv_dK
      have hp8 : PlanH H8 q d o tb en bk pl := (hp4.kp k47 vr4).kp kk v7
      have frf : ∀ y ∈ fp, y ∉ fpo := fun y hy hz => by
        obtain ⟨o2, e2, _⟩ := vfp y hy
        have := fro2 y hz
        rw [k02 _ _ e2 (by simp)] at this
        cases this
      have sh8 : ShelfH CB CC CF H8 s bl pl S dn [] wf fp := (sh4.kp k47 vr4 T.n_BF T.n_CF (fun y hy hn => nrf (by rw [← List.mem_singleton.mp hn]; exact hy))).kp kk v7 T.n_BF T.n_CF (fun y hy hn => (List.mem_append.mp hn).elim (fun z => nrf (by rw [← List.mem_singleton.mp z]; exact hy)) (frf y hy))
      have nrfm : r ∉ fpm := fun z => by
        have := frm0 r z
        obtain ⟨a1, a2, a3, e⟩ := hR
        rw [this] at e
        cases e
      have fmf : ∀ y ∈ fpm, y ∉ fpo := fun y hy hz => by
        obtain ⟨o2, e2, _⟩ := shm.vol y hy
        rw [fro2 y hz] at e2
        cases e2
      have shm8 : ShelfH CB CC CF H8 x bl1 pl S [] [] [] fpm := (shm4.kp k47 vr4 T.n_BF T.n_CF (fun y hy hn => nrfm (by rw [← List.mem_singleton.mp hn]; exact hy))).kp kk v7 T.n_BF T.n_CF (fun y hy hn => (List.mem_append.mp hn).elim (fun z => nrfm (by rw [← List.mem_singleton.mp z]; exact hy)) (fmf y hy))
      have k08 : Kp [r] H H8 := fun y u e hn => by
        have e4 := k04 _ _ e (by simp)
        refine kk _ _ (k47 _ _ e4 hn) fun hm => (List.mem_append.mp hm).elim hn fun z => ?_
        have e2 := k02 _ _ e (by simp)
        rw [fro2 y z] at e2
        cases e2
      have nrf2 : r ∉ fp2 := fun z => (fra r z).elim nrfo fun y => by
        obtain ⟨a1, a2, a3, e⟩ := hR7
        rw [e] at y
        cases y
      have hsS : ∃ dx0 c0 tx0 sm0 ld0 lu0 lw0, H8 s = some (ShO CF dx0 c0 tx0 sm0 ld0 lu0 lw0) := by
        obtain ⟨dx0, c0, tx0, sm0, ld0, lu0, lw0, rw0, ds0, us0, _, a0⟩ := sh8
        exact ⟨_, _, _, _, _, _, _, a0.hs⟩
      have hsX : ∃ dx0 c0 tx0 sm0 ld0 lu0 lw0, H8 x = some (ShO CF dx0 c0 tx0 sm0 ld0 lu0 lw0) := by
        obtain ⟨dx0, c0, tx0, sm0, ld0, lu0, lw0, rw0, ds0, us0, _, a0⟩ := shm8
        exact ⟨_, _, _, _, _, _, _, a0.hs⟩
      have hsO : ∃ dx0 c0 tx0 sm0 ld0 lu0 lw0, H8 x2 = some (ShO CF dx0 c0 tx0 sm0 ld0 lu0 lw0) := by
        obtain ⟨dx0, c0, tx0, sm0, ld0, lu0, lw0, rw0, ds0, us0, _, a0⟩ := sho8
        exact ⟨_, _, _, _, _, _, _, a0.hs⟩
      obtain ⟨sx, sc, st, sm, sd, su, sw, eS⟩ := hsS
      obtain ⟨mx, mc, mt, mm, md, mu, mw, eX⟩ := hsX
      obtain ⟨ox, oc, ot, om, od, ou, ow, eO⟩ := hsO
      -- shelf != made, made != shelf, shelf != other
      refine ⟨_, rfl, _, rfl, s, x, sx, mx, _, _, rfl, rfl, eS, eX, s, x, bl, bl1, pl, pl, S, S, _, _, _, _, _, _, _, _, true, rfl, sh8, shm8, hb12, rfl, rfl, rfl, .inl ⟨rfl, .refl _, rfl⟩, _, rfl, _, rfl, ?_⟩
      refine ⟨_, rfl, _, rfl, x, s, mx, sx, _, _, rfl, rfl, eX, eS, x, s, bl1, bl, pl, pl, S, S, _, _, _, _, _, _, _, _, true, rfl, shm8, sh8, hb12.symm, rfl, rfl, rfl, .inl ⟨rfl, .refl _, rfl⟩, _, rfl, _, rfl, ?_⟩
      refine ⟨_, rfl, _, rfl, s, x2, sx, ox, _, _, rfl, rfl, eS, eO, s, x2, bl, bl2, pl, pl, S, S, _, _, _, _, _, _, _, _, true, rfl, sh8, sho8, hb22, rfl, rfl, rfl, .inl ⟨rfl, .refl _, rfl⟩, _, rfl, _, rfl, ?_⟩
      refine ⟨_, rfl, x2, ox, _, rfl, eO, x2, bl2, pl, S, _, _, _, _, rfl, sho8, fun p rw3 H9 hp3 hpr k9 hp9 => ?_⟩
      refine ⟨_, rfl, p, f, _, _, rfl, rfl, hp9, k9 _ _ hf8 (by simp), .inl ⟨by rw [dV_length, dV_length]; exact hpr.length_eq, dict_perm' hpr okS.nd, _, rfl, ?_⟩⟩
      -- told
      have sh9 := sh8.kp0 k9
      have shm9 := shm8.kp0 k9
      have sho9 := sho8.kp0 k9
      have eS9 := k9 _ _ eS (by simp)
      have eX9 := k9 _ _ eX (by simp)
      have eO9 := k9 _ _ eO (by simp)
      have gbl : GoodBook bl := g.perm hperm
      have gb1 : GoodBook bl1 := g.perm hb1
      have gb2 : GoodBook bl2 := g.perm hb2
      obtain ⟨NS, hNS, hNSs, hNSl⟩ : ∃ NS : List Tx0, NS.Perm (S.map (·.1)) ∧ Srt NS ∧ ∀ t ∈ NS, Lt t := by
        refine ⟨ls, hls, hsr, fun t ht => ?_⟩
        obtain ⟨p, hp, rfl⟩ := List.mem_map.mp (hls.mem_iff.mp ht)
        exact (okS.nm p hp).1
      have tri : ∀ y, y ∈ ([s, x, x2] : List Addr) → ∃ bj dnj wj fj dx0 c0 tx0 sm0 ld0 lu0 lw0, ShelfH CB CC CF H9 y bj pl S dnj [] wj fj ∧ H9 y = some (ShO CF dx0 c0 tx0 sm0 ld0 lu0 lw0) ∧ sumW (prM bj pl) S = sumW (prM bl pl) S ∧ sumW (bhM bj pl) S = sumW (bhM bl pl) S := fun y hy => by
        have eqs : ∀ {bj : Bk}, GoodBook bj → bl.Perm bj → sumW (prM bj pl) S = sumW (prM bl pl) S ∧ sumW (bhM bj pl) S = sumW (bhM bl pl) S := fun {bj} gj pj => by
          unfold sumW
          refine ⟨congrArg List.sum (List.map_congr_left fun p _ => (pr_perm gj pj pl p.2).symm), congrArg List.sum (List.map_congr_left fun p _ => (bh_perm gbl gj pj pl p.2).symm)⟩
        simp only [List.mem_cons, List.not_mem_nil, or_false] at hy
        rcases hy with e | e | e <;> subst e
        · exact ⟨bl, dn, wf, fp, _, _, _, _, _, _, _, sh9, eS9, rfl, rfl⟩
        · exact ⟨bl1, [], [], fpm, _, _, _, _, _, _, _, shm9, eX9, (eqs gb1 hb12).1, (eqs gb1 hb12).2⟩
        · exact ⟨bl2, dn2, [], fp2, _, _, _, _, _, _, _, sho9, eO9, (eqs gb2 hb22).1, (eqs gb2 hb22).2⟩
      refine ⟨_, rfl, _, rfl, _, rfl, by show 3 ≤ sizeLine; omega, fun tp htp => ⟨tp, rfl, ⟨_, SqT.of upd_same⟩, fun D hD => ?_⟩⟩
      obtain ⟨hD9, nDt⟩ := none_of_upd hD
      refine lc_it (walk_tup (K := K) (a := tp) (xs := ([s, x, x2] : List Addr).map V.ref)) (fun i H' => ∃ us : List Addr, us.length = i ∧ H' D = some (.lst (us.map .ref)) ∧ Kp [] H9 H' ∧ H' tp = some (.tup (([s, x, x2] : List Addr).map V.ref)) ∧ ∀ u ∈ us, TldH K H' u (sumW (prM bl pl) S) (sumW (bhM bl pl) S) NS S.length)
        ⟨[], rfl, upd_same, ((kp_refl H9).up (.inl htp)).up (.inl hD9), by rw [upd_ne nDt.symm, upd_same]; rfl, fun u hu => by cases hu⟩ (fun i H' _ h => ?_) ?_ ?_
      · obtain ⟨_, _, _, _, e, _⟩ := h
        exact SqT.of e
      · rintro i xv Ha Hb hi ⟨us, hul, hDa, ka, hta, hus⟩ ⟨rfl, hxv⟩
        rw [List.length_map] at hi
        rw [List.getElem?_map, List.getElem?_eq_getElem hi] at hxv
        obtain rfl : xv = .ref ([s, x, x2] : List Addr)[i] := (Option.some.inj hxv).symm
        have hul3 : us.length < 3 := by rw [hul]; exact hi
        obtain ⟨bj, dnj, wj, fj, dx0, c0, tx0, sm0, ld0, lu0, lw0, shj, ej, w1, w2⟩ := tri _ (List.getElem_mem hi)
        generalize ([s, x, x2] : List Addr)[i] = y at shj ej
        have shb := shj.kp0 ka
        have eb := ka _ _ ej (by simp)
        refine ⟨rfl, _, rfl, y, dx0, _, rfl, eb, y, bj, pl, S, _, _, _, _, rfl, shb, ?_⟩
        refine ⟨_, rfl, y, dx0, _, rfl, eb, y, bj, pl, S, _, _, _, _, rfl, shb, ?_⟩
        refine ⟨_, rfl, y, dx0, _, rfl, eb, y, bj, pl, S, _, _, _, _, rfl, shb, fun pn ns Hc hpn hns hnss kc hpn2 => ?_⟩
        have ens : ns = NS := srt_eq hnss hNSs (hns.trans hNS.symm)
        subst ens
        have shc := shb.kp0 kc
        have ec := kc _ _ eb (by simp)
        refine ⟨_, rfl, y, dx0, _, rfl, ec, y, bj, pl, S, _, _, _, _, rfl, shc, _, rfl, by show 4 ≤ sizeLine; omega, fun tq htq => ?_⟩
        have hDc := kc _ _ hDa (by simp)
        have nDq := ne_of_none hDc htq
        refine ⟨us.map .ref, by rw [upd_ne nDq]; exact hDc, by rw [List.length_map]; omega, us ++ [tq], by rw [List.length_append, List.length_singleton, hul], by rw [upd_same, List.map_append]; rfl, ?_, ?_, fun u hu => ?_⟩
        · exact ((ka.trans kc).up (.inl ((ka.trans kc).free htq (by simp)))).up (.inl hD9)
        · have htc := kc _ _ hta (by simp)
          rw [upd_ne (ne_of htc hDc (fun z => nomatch z)), upd_ne (ne_of_none htc htq)]
          exact htc
        · have up2 : ∀ {z : Addr} {xs : List V}, Hc z = some (.tup xs) → upd (upd Hc tq (.tup [.int (if true = true then sumW (prM bj pl) S else sumW (bhM bj pl) S), .int (if false = true then sumW (prM bj pl) S else sumW (bhM bj pl) S), .ref pn, .str (strM S.length (sumW (prM bj pl) S))])) D (.lst (us.map .ref ++ [.ref tq])) z = some (.tup xs) := fun {z xs} ez => by
            rw [upd_ne (ne_of ez hDc (fun w => nomatch w)), upd_ne (ne_of_none ez htq)]
            exact ez
          rcases List.mem_append.mp hu with z | z
          · obtain ⟨p9, h91, h92⟩ := hus u z
            exact ⟨p9, up2 (kc _ _ h91 (by simp)), up2 (kc _ _ h92 (by simp))⟩
          · rw [List.mem_singleton.mp z]
            refine ⟨pn, ?_, up2 hpn2⟩
            rw [upd_ne nDq.symm, upd_same, ← w1, ← w2]
            rfl
      rintro Ha ⟨us, hul, hDa, ka, hta, hus⟩
      obtain ⟨u0, u1, u2, rfl⟩ : ∃ u0 u1 u2, us = [u0, u1, u2] := by
        match us, hul with
        | [a, b, c], _ => exact ⟨a, b, c, rfl⟩
      have k8a := k9.trans ka
      have ek : ((dV tv S).map fun kv => kV kv.1) = ((S.map (·.1)).map SX.S).map V.str := by
        unfold dV
        rw [List.map_map, List.map_map, List.map_map]
        rfl
      -- drop
      refine ⟨_, rfl, x2, ox, _, rfl, k8a _ _ eO (by simp), rfl, _, rfl, f, _, rfl, .inl (k8a _ _ hf8 (by simp)), fun q1 hq1 => ?_⟩
      rw [ek]
      have kab : Kp [] Ha (upd Ha q1 (.lst (((S.map (·.1)).map SX.S).map V.str))) := (kp_refl Ha).up (.inl hq1)
      have hq1b : upd Ha q1 (.lst (((S.map (·.1)).map SX.S).map V.str)) q1 = some (.lst (((S.map (·.1)).map SX.S).map V.str)) := upd_same
      generalize upd Ha q1 (.lst (((S.map (·.1)).map SX.S).map V.str)) = Hb at kab hq1b
      refine ⟨q1, (S.map (·.1)).map SX.S, rfl, SqL.of hq1b, by rw [List.length_map, List.length_map]; omega, fun ys q2 hys hso hq2 => ?_⟩
      obtain ⟨ls2, rfl, hls2, _⟩ := perm_S hys hso
      have kbc : Kp [] Hb (upd Hb q2 (.lst ((ls2.map SX.S).map V.str))) := (kp_refl Hb).up (.inl hq2)
      have hq2c : upd Hb q2 (.lst ((ls2.map SX.S).map V.str)) q2 = some (.lst (ls2.map tv)) := by rw [upd_same, List.map_map]; rfl
      generalize upd Hb q2 (.lst ((ls2.map SX.S).map V.str)) = Hc at kbc hq2c
      have kac := kab.trans kbc
      have k8c := k8a.trans kac
      obtain ⟨n0, l0, en0⟩ : ∃ n0 l0, ls2 = n0 :: l0 := by
        cases e : ls2 with
        | cons a b => exact ⟨a, b, rfl⟩
        | nil =>
          have := hls2.length_eq
          rw [e, List.length_map] at this
          exact absurd (List.length_eq_zero_iff.mp this.symm) hne
      have hn0 : n0 ∈ S.map (·.1) := hls2.mem_iff.mp (by rw [en0]; exact List.mem_cons_self ..)
      have shoc := sho8.kp0 k8c
      have hfl3 : fs.length ≤ 50 := by omega
      refine ⟨q2, _, 0, tv n0, rfl, rfl, SqL.of hq2c, by rw [en0]; exact atI_nat (j := 0) rfl, x2, bl2, pl, S, dn2, [], none, [], [], fp2, n0, rfl, shin_free shoc, hn0, by omega, fun Hd od => ?_⟩
      obtain ⟨fp3, sh3, fr3, k3⟩ := shout_free od
      have vc : VolAt CF Hc fp2 := shoc.vol
      have hDc := kac _ _ hDa (by simp)
      have nDf : D ∉ fp2 := fun z => by
        obtain ⟨o2, e2, _⟩ := sho9.vol D z
        rw [hD9] at e2
        cases e2
      have hDd := k3 _ _ hDc nDf
      have tl : ∀ u ∈ ([u0, u1, u2] : List Addr), TldH K Hd u (sumW (prM bl pl) S) (sumW (bhM bl pl) S) NS S.length := fun u hu => ((hus u hu).kp (CF := CF) kac vol_nil).kp k3 vc
      have t0 := (tl u0 (by simp)).dp
      have t1 := (tl u1 (by simp)).dp
      have t2 := (tl u2 (by simp)).dp
      have shp := told_shp (a := sumW (prM bl pl) S) (b := sumW (bhM bl pl) S) (m := S.length) hNSl
      have lay := told_lay (a := sumW (prM bl pl) S) (b := sumW (bhM bl pl) S) (m := S.length) hNSl
      refine ⟨_, rfl, D, _, 0, .ref u0, rfl, rfl, SqL.of hDd, atI_nat (j := 0) rfl, _, rfl, D, _, 1, .ref u1, rfl, rfl, SqL.of hDd, atI_nat (j := 1) rfl, _, _, t0, t1, shp, shp, _, rfl, ?_⟩
      refine iteF' (by rw [eqv_same lay]; rfl) ?_
      refine ⟨_, rfl, D, _, 1, .ref u1, rfl, rfl, SqL.of hDd, atI_nat (j := 1) rfl, _, rfl, D, _, 2, .ref u2, rfl, rfl, SqL.of hDd, atI_nat (j := 2) rfl, _, _, t1, t2, shp, shp, _, rfl, ?_⟩
      refine iteF' (by rw [eqv_same lay]; rfl) ?_
      -- wider
      have hpd : PlanH Hd q d o tb en bk pl := (hp8.kp0 k8c).kp k3 vc
      refine ⟨_, rfl, q, _, rfl, hpd.hq, fun wq hwq => ?_⟩
      have kde : Kp [] Hd (upd Hd wq (.dK [(.inr "prices", .ref d), (.inr "order", .ref o), (.inr "view", .int pl.span), (.inr "table", .ref tb), (.inr "ends", .ref en)])) := (kp_refl Hd).up (.inl hwq)
      have hwe : upd Hd wq (.dK [(.inr "prices", .ref d), (.inr "order", .ref o), (.inr "view", .int pl.span), (.inr "table", .ref tb), (.inr "ends", .ref en)]) wq = some (.dK [(.inr "prices", .ref d), (.inr "order", .ref o), (.inr "view", .int pl.span), (.inr "table", .ref tb), (.inr "ends", .ref en)]) := upd_same
      refine ⟨_, rfl, _, _, rfl, (hpd.kp0 kde).g_view, _, _, rfl, rfl, _, rfl, wq, _, rfl, DPut.k (k := .inr "view") hwe (by show 5 < sizeLine; omega), ?_⟩
      have kdf : Kp [] Hd (upd (upd Hd wq (.dK [(.inr "prices", .ref d), (.inr "order", .ref o), (.inr "view", .int pl.span), (.inr "table", .ref tb), (.inr "ends", .ref en)])) wq (.dK (putK [(.inr "prices", .ref d), (.inr "order", .ref o), (.inr "view", .int pl.span), (.inr "table", .ref tb), (.inr "ends", .ref en)] (.inr "view") (.int ((pl.span : Int) + 1))))) := kde.up (.inl hwq)
      have hwf : upd (upd Hd wq (.dK [(.inr "prices", .ref d), (.inr "order", .ref o), (.inr "view", .int pl.span), (.inr "table", .ref tb), (.inr "ends", .ref en)])) wq (.dK (putK [(.inr "prices", .ref d), (.inr "order", .ref o), (.inr "view", .int pl.span), (.inr "table", .ref tb), (.inr "ends", .ref en)] (.inr "view") (.int ((pl.span : Int) + 1)))) wq = some (.dK [(.inr "prices", .ref d), (.inr "order", .ref o), (.inr "view", .int (wide pl).span), (.inr "table", .ref tb), (.inr "ends", .ref en)]) := by
        rw [upd_same]
        rfl
      show (fun Hz => _) (upd (upd Hd wq (.dK [(.inr "prices", .ref d), (.inr "order", .ref o), (.inr "view", .int pl.span), (.inr "table", .ref tb), (.inr "ends", .ref en)])) wq (.dK (putK [(.inr "prices", .ref d), (.inr "order", .ref o), (.inr "view", .int pl.span), (.inr "table", .ref tb), (.inr "ends", .ref en)] (.inr "view") (.int ((pl.span : Int) + 1)))))
      generalize upd (upd Hd wq (.dK [(.inr "prices", .ref d), (.inr "order", .ref o), (.inr "view", .int pl.span), (.inr "table", .ref tb), (.inr "ends", .ref en)])) wq (.dK (putK [(.inr "prices", .ref d), (.inr "order", .ref o), (.inr "view", .int pl.span), (.inr "table", .ref tb), (.inr "ends", .ref en)] (.inr "view") (.int ((pl.span : Int) + 1)))) = He at kdf hwf
      have hpf := hpd.kp0 kdf
      have hpw : PlanH He wq d o tb en bk (wide pl) := ⟨hwf, hpf.hd, hpf.ho, hpf.ht, hpf.he⟩
      have hfd : Hd f = some (.dK (dV tv S)) := k3.vol vc (k8c _ _ hf8 (by simp)) nv_dK
      refine ⟨_, rfl, _, rfl, wq, d, o, tb, en, bk, wide pl, rfl, g, hpw, good_wide gp hsp, fun c3 bl3 Hf hb3 hc3 kf => ?_⟩
      have kdF := kdf.trans kf
      refine ⟨_, rfl, f, _, rfl, kdF _ _ hfd (by simp), fun dd2 hdd2 => ⟨rfl, rfl, fun x3 dx3 hx3 hdx3 hnx3 => ?_⟩⟩
      obtain ⟨hx3f, nx3d⟩ := none_of_upd hx3
      have k1d : Kp [] Hf (hid [dd2] (upd Hf dd2 (.dK (dV tv S)))) := hid_new hdd2
      have k23 : Kp [] (upd Hf dd2 (.dK (dV tv S))) (upd (upd (upd Hf dd2 (.dK (dV tv S))) dx3 (.own x3)) x3 (.ins CF dx3 [])) := ((kp_refl _).up (.inl hdx3)).up (.inl hx3)
      have kall : Kp [] Hf (upd (upd (upd Hf dd2 (.dK (dV tv S))) dx3 (.own x3)) x3 (.ins CF dx3 [])) := ((kp_refl Hf).up (.inl hdd2)).trans k23
      refine ⟨x3, dx3, c3, .ref dd2, bl3, wide pl, S, rfl, upd_same, hc3.kp0 (k1d.trans (hid_kp k23 fun y hy => by cases hy)), .inl ⟨dd2, rfl, k23 _ _ upd_same (by simp)⟩, okS.bk (hb3.trans hperm.symm), fun Hg fpw shw frw kg => ⟨rfl, ?_⟩⟩
      have kdG : Kp [] Hd Hg := kdF.trans (kp_fresh ((kall.any [x3]).trans kg) (fun y hy => by rw [List.mem_singleton.mp hy]; exact .inr hx3f))
      have fp2f : ∀ y ∈ fp2, ∀ o2, H y = some o2 → y = r := fun y hy o2 e => by
        have e2 := k02 _ _ e (by simp)
        rcases fra y hy with z | z
        · rw [fro2 y z] at e2; cases e2
        · by_cases hyr : y = r
          · exact hyr
          · rw [k47 _ _ (k04 _ _ e (by simp)) (by simpa using hyr)] at z; cases z
      have nff : ∀ y ∈ fp, y ∉ fp2 := fun y hy hz => by
        obtain ⟨o2, e2, _⟩ := vfp y hy
        have := fp2f y hz o2 e2
        rw [this] at hy
        exact nrf hy
      have nfm : ∀ y ∈ fpm, y ∉ fp2 := fun y hy hz => by
        obtain ⟨o2, e2, _⟩ := shm.vol y hy
        rcases fra y hz with z | z
        · rw [fro2 y z] at e2; cases e2
        · rw [k47 _ _ (k24 _ _ e2 (by simp)) (fun hn => nrfm (by rw [← List.mem_singleton.mp hn]; exact hy))] at z; cases z
      have shg : ShelfH CB CC CF Hg s bl pl S dn [] wf fp := ((sh8.kp0 k8c).kp k3 vc T.n_BF T.n_CF nff).kp0 kdG
      have shmg : ShelfH CB CC CF Hg x bl1 pl S [] [] [] fpm := ((shm8.kp0 k8c).kp k3 vc T.n_BF T.n_CF nfm).kp0 kdG
      have sh3g := sh3.kp0 kdG
      have hsW : ∃ dx0 c0 tx0 sm0 ld0 lu0 lw0, Hg x3 = some (ShO CF dx0 c0 tx0 sm0 ld0 lu0 lw0) := by
        obtain ⟨dx0, c0, tx0, sm0, ld0, lu0, lw0, rw0, ds0, us0, _, a0⟩ := shw
        exact ⟨_, _, _, _, _, _, _, a0.hs⟩
      have hsS2 : ∃ dx0 c0 tx0 sm0 ld0 lu0 lw0, Hg s = some (ShO CF dx0 c0 tx0 sm0 ld0 lu0 lw0) := by
        obtain ⟨dx0, c0, tx0, sm0, ld0, lu0, lw0, rw0, ds0, us0, _, a0⟩ := shg
        exact ⟨_, _, _, _, _, _, _, a0.hs⟩
      have hsX2 : ∃ dx0 c0 tx0 sm0 ld0 lu0 lw0, Hg x = some (ShO CF dx0 c0 tx0 sm0 ld0 lu0 lw0) := by
        obtain ⟨dx0, c0, tx0, sm0, ld0, lu0, lw0, rw0, ds0, us0, _, a0⟩ := shmg
        exact ⟨_, _, _, _, _, _, _, a0.hs⟩
      have hsO2 : ∃ dx0 c0 tx0 sm0 ld0 lu0 lw0, Hg x2 = some (ShO CF dx0 c0 tx0 sm0 ld0 lu0 lw0) := by
        obtain ⟨dx0, c0, tx0, sm0, ld0, lu0, lw0, rw0, ds0, us0, _, a0⟩ := sh3g
        exact ⟨_, _, _, _, _, _, _, a0.hs⟩
      obtain ⟨wx, wc, wt, wm, wd, wu, ww, eW⟩ := hsW
      obtain ⟨sx2, sc2, st2, sm2, sd2, su2, sw2, eS2⟩ := hsS2
      obtain ⟨mx2, mc2, mt2, mm2, md2, mu2, mw2, eX2⟩ := hsX2
      obtain ⟨ox2, oc2, ot2, om2, od2, ou2, ow2, eO2⟩ := hsO2
      refine ⟨s, x3, sx2, wx, _, _, rfl, rfl, eS2, eW, s, x3, bl, bl3, pl, wide pl, S, S, _, _, _, _, _, _, _, _, false, rfl, shg, shw, hperm.trans hb3.symm, rfl, rfl, rfl, .inr (.inl ⟨by show pl.span ≠ pl.span + 1; omega, rfl⟩), _, rfl, _, rfl, ?_⟩
      have hlenne : (putR S n0 none).length ≠ S.length := by
        obtain ⟨t9, ht9⟩ := getA_of_mem hn0
        have h9 := (put_get okS.nd (n := n0)).length_eq
        rw [ht9] at h9
        have h10 : (offR S n0 ++ [(n0, t9)]).length = S.length := h9
        rw [List.length_append, List.length_singleton] at h10
        show (offR S n0).length ≠ S.length
        omega
      refine ⟨_, rfl, _, rfl, x2, s, ox2, sx2, _, _, rfl, rfl, eO2, eS2, x2, s, bl2, bl, pl, pl, _, S, _, _, _, _, _, _, _, _, false, rfl, sh3g, shg, hb22.symm, rfl, rfl, rfl, .inr (.inr ⟨rfl, hlenne, rfl⟩), _, rfl, _, rfl, ?_⟩
      refine iteT' rfl ?_
      refine ⟨_, rfl, _, rfl, x2, x, ox2, mx2, _, _, rfl, rfl, eO2, eX2, x2, x, bl2, bl1, pl, pl, _, S, _, _, _, _, _, _, _, _, false, rfl, sh3g, shmg, hb22.symm.trans hb12, rfl, rfl, rfl, .inr (.inr ⟨rfl, hlenne, rfl⟩), _, rfl, _, rfl, ?_⟩
      refine k Hg fun y o2 e hn => ?_
      refine kdG _ _ (k3 _ _ (k8c _ _ (k08 _ _ e hn) (by simp)) fun hz => hn ?_) (by simp)
      rw [fp2f y hz o2 e]
      exact List.mem_singleton_self _
end
end K75
-- part X1
set_option Elab.async false
set_option linter.all false
set_option maxRecDepth 100000
set_option maxHeartbeats 4000000
namespace K75
open PySem PySem.Spec PyProof.Rows L2
/-- what base tells of the running frame's cells -/
def CellB (X : Cx) (σ : L2.St) (base : Heap) : Prop := ∀ (i : Nat) (y : Str) (v : V) (c : Addr), X.fn y = true → X.N[i]? = some y → σ[i]? = some (some v) → X.env.scope.names.lookup y = some .cell → X.env.cells.lookup y = some c → ∃ u, L2.RelV v u ∧ base.IsCell c (some u)
/-- all of the heap but what is tracked and the frames -/
def baseOf (X : Cx) (h : Heap) (H : Hp) : Heap := PySem.W.hideAll h (trk h H ++ frs X.stack)
section
variable {X : Cx} {pins : List (Addr × Obj)} {σ : L2.St} {H : Hp} {s : Shared}
theorem baseOf_get {h : Heap} {b : Addr} {o : Obj} (e : h.get? b = some o) (n : H b = none) (nf : b ∉ frs X.stack) : (baseOf X h H).get? b = some o :=
  PySem.W.hideAll_get _ e fun hm => by
    rcases List.mem_append.mp hm with z | z
    · have q : (H b).isSome = true := (List.mem_filter.mp z).2
      rw [n] at q
      simp at q
    · exact nf z
theorem of_baseOf {h : Heap} {b : Addr} {o : Obj} (e : (baseOf X h H).get? b = some o) : h.get? b = some o ∧ H b = none ∧ b ∉ frs X.stack := by
  have e' : h.get? b = some o := PySem.W.of_hideAll _ e
  have nm : b ∉ trk h H ++ frs X.stack := fun hm => by
    have z : (baseOf X h H).get? b = none := PySem.W.hideAll_none _ hm
    rw [z] at e
    cases e
  refine ⟨e', ?_, fun z => nm (List.mem_append_right _ z)⟩
  cases q : H b with
  | none => rfl
  | some x => exact absurd (List.mem_append_left _ (List.mem_filter.mpr ⟨List.mem_range.mpr (Heap.lt_size e'), by simp [q]⟩)) nm
theorem funs_base {h base b2 : Heap} : ∀ {l : List Env}, h.FunFrames base l → (∀ b ∈ frs l, b2.get? b = none) → h.FunFrames b2 l
  | [], _, _ => trivial
  | env :: l, hl, hn => by
    obtain ⟨hk, ⟨L, o, hf, hnn, ho, hd⟩, hr⟩ := hl
    refine ⟨hk, ⟨L, o, hf, hn L ?_, ho, hd⟩, funs_base hr fun b hb => hn b ?_⟩
    · unfold frs
      rw [List.filterMap_cons, hf]
      exact List.mem_cons_self
    · unfold frs
      rw [List.filterMap_cons, hf]
      exact List.mem_cons_of_mem _ hb
theorem Inv.rebase (I : Inv X pins σ H s) : Env0 X.prog X.w X.K X.mg (baseOf X s.heap H) X.A X.stack s H ∧ CellB X σ (baseOf X s.heap H) := by
  have nofr : ∀ b o, X.base.get? b = some o → b ∉ frs X.stack := fun b o e z => by
    have := (I.stack.mem z).1
    rw [e] at this
    cases this
  have kk : ∀ b o, X.base.get? b = some o → (baseOf X s.heap H).get? b = some o := fun b o e => baseOf_get (I.bs b o e).1 (I.bs b o e).2 (nofr b o e)
  have E := I.env0
  obtain ⟨mb, hmb, hbb⟩ := I.ok.mod.blt
  refine ⟨⟨E.frames, ⟨I.ok.mod.kin.keeps kk, I.ok.mod.glob.keeps kk, ⟨mb, hmb.keeps kk, hbb⟩, I.ok.mod.nolimit.keeps kk⟩, fun b o e => ⟨(of_baseOf e).1, (of_baseOf e).2.1⟩, Nat.le_of_eq (PySem.W.hideAll_size _ _), funs_base I.stack fun b hb => ?_, I.stkFree, I.hok, I.bare⟩, fun i y v c hfn hN hs hk hc => ?_⟩
  · exact PySem.W.hideAll_none _ (List.mem_append_right _ hb)
  · obtain ⟨m, hn, hl⟩ := I.loc
    obtain ⟨u, r, l⟩ := hl i y v hN hs (.inr (.inl hk))
    rcases l with ⟨z, _⟩ | ⟨_, c2, hc2, o, ho, hd⟩
    · have z2 : X.env.scope.names.lookup y = some .local := z
      rw [hk] at z2
      cases z2
    · rw [hc] at hc2
      cases hc2
      refine ⟨u, r, o, baseOf_get ho (I.freeC y c hc) fun z => ?_, hd⟩
      rcases List.mem_cons.mp (I.stkSub c z) with e | e
      · exact I.cne y c hc e
      · have h1 := I.ok.cab y c hfn hc
        obtain ⟨_, o2, ho2, _⟩ := I.ok.funs.mem e
        exact absurd (Nat.lt_of_lt_of_le (Heap.lt_size ho2) h1) (Nat.lt_irrefl _)
end
section
variable {X : Cx} {k j : Nat} {x : Str} {sp : Heap → Sp} {p pos : Pos} {e : Expr} {es : List Expr} {t : TA}
/-- f(..) of a def whose promise holds over any base: the promise may tell what the running frame's cells hold -/
theorem pe_cB (c : ∀ b : Heap, C8.Cal X.prog X.w X.K X.mg b k x (sp b) []) (hr : Room j X.A) (hk : k ≤ j) (hg : Gl X x) (ha : PA X (e :: es) t)
    (hdb : (x == ("__debug__" : Str)) = false := by decide) (he : starEach (e :: es) X.env = (false, eval e X.env) :: starEach es X.env := by rfl) (hpl : (backTo pos (starEach es X.env)).any (·.1) = false := by rfl) :
    PE X (.Call (.Name x p) (e :: es) [] pos) (fun σ H Q => t σ H fun vs H1 => ∀ b, CellB X σ b → sp b vs H1 Q E0) := by
  refine ⟨fun pins s σ H Q I h => ?_⟩
  obtain ⟨f, fd, ps, ds, _, hm, kp, _, _⟩ := (c X.base).ex
  refine wpAny_Call_Name_kw (ld_glob I hg hm ?_ hdb)
  refine PySem.W.callWith_K (h₀ := X.base) I.ok.mod.kin kp (thn (ha.run pos pins s σ _ _ I h) fun us s2 ⟨vs, H2, I2, r, q⟩ => ⟨I2.kIn, ?_⟩) he hpl
  obtain ⟨e0, cb⟩ := Inv.rebase I2
  obtain ⟨f2, fd2, ps2, ds2, F2, hm2, _, b2, d2⟩ := (c (baseOf X s2.heap H2)).ex
  have ef : f2 = f := by
    rw [hm] at hm2
    cases hm2
    rfl
  subst ef
  refine wpAny_call (codeAny_mono ((F2.raw b2 d2) X.A X.stack s2 H2 us vs Q E0 (hr.mono hk) e0 r (by show sp _ (vs ++ []) H2 Q E0; rw [List.append_nil]; exact q _ cb)) fun r s' hq => ?_)
  cases r with
  | error er => exact pass0 pins σ H2 s2 er s' I2 hq
  | ok fl =>
    cases fl with
    | ret u => exact I2.after hq
    | next => exact False.elim hq
    | brk => exact False.elim hq
    | cont => exact False.elim hq
end
/-! what lives on where tables alone may change -/
section
variable {CB CC CF : Addr} {H H' : Hp} {a c s : Addr} {bk : Bk} {pl : Pl}
theorem nt_lst {xs : List V} (ps : Array Value) : HO.lst xs ≠ .tbl ps := fun z => nomatch z
theorem nt_tup {xs : List V} (ps : Array Value) : HO.tup xs ≠ .tbl ps := fun z => nomatch z
theorem nt_dK {xs : List (Key × V)} (ps : Array Value) : HO.dK xs ≠ .tbl ps := fun z => nomatch z
theorem nt_ins {C dx : Addr} {fs : List (Str × V)} (ps : Array Value) : HO.ins C dx fs ≠ .tbl ps := fun z => nomatch z
theorem BookAt.kpn {dx d p al : Addr} {ac : Tx0} {lg : Nat} {de : Int} (h : BookAt CB H a bk dx d p al ac lg de) (k : KpN [] H H') : BookAt CB H' a bk dx d p al ac lg de :=
  ⟨k _ _ h.ha (by simp) (fun ps z => nomatch z), k _ _ h.hd (by simp) nt_dK, k _ _ h.hp (by simp) nt_tup, k _ _ h.hl (by simp) nt_tup, h.hac, h.hal, h.hlg, h.hlg5, h.hlg1, h.hlgm, h.g, h.so⟩
theorem PlanH.kpn {q d o tb en : Addr} (h : PlanH H q d o tb en bk pl) (k : KpN [] H H') : PlanH H' q d o tb en bk pl :=
  ⟨k _ _ h.hq (by simp) nt_dK, k _ _ h.hd (by simp) nt_dK, k _ _ h.ho (by simp) nt_tup, k _ _ h.ht (by simp) nt_dK, k _ _ h.he (by simp) nt_dK⟩
end
section
variable {CB CC CF : Addr} {G G' : Hp} {c s : Addr} {bk : Bk} {pl : Pl} {wf fp : List Addr}
theorem CutH.kpn (h : CutH CB CC G c bk pl) (k : KpN [] G G') : CutH CB CC G' c bk pl := by
  obtain ⟨dx, ab, o, tb, en, sz, rw, la, ns, h⟩ := h
  obtain ⟨dx2, d, p, al, ac, lg, de, b⟩ := h.hb
  exact ⟨dx, ab, o, tb, en, sz, rw, la, ns, ⟨k _ _ h.ha (by simp) (fun ps z => nomatch z), ⟨dx2, d, p, al, ac, lg, de, b.kpn k⟩, k _ _ h.ho (by simp) nt_tup, k _ _ h.ht (by simp) nt_dK, k _ _ h.he (by simp) nt_dK, k _ _ h.hz (by simp) nt_tup, h.hpr, h.hpl, h.up, h.mem, h.len, h.gp⟩⟩
/-- a shelf without a past -/
theorem ShelfH.kpn (h : ShelfH CB CC CF G s bk pl [] [] [] wf fp) (k : KpN [] G G') : ShelfH CB CC CF G' s bk pl [] [] [] wf fp := by
  obtain ⟨dx, c, tx, sm, ld, lu, lw, rw, ds, us, rfl, h⟩ := h
  have e1 : ds = [] := by
    have := Paired.length h.ed
    exact List.length_eq_zero_iff.mp this
  have e2 : us = [] := by
    have := Paired.length h.eu
    exact List.length_eq_zero_iff.mp this
  subst e1 e2
  exact ⟨dx, c, tx, sm, ld, lu, lw, rw, [], [], rfl, k _ _ h.hs (by simp) (fun ps z => nomatch z), h.hc.kpn k, k _ _ h.ht (by simp) nt_dK, h.pr, h.so, h.ok, k _ _ h.hm (by simp) nt_tup, k _ _ h.hd (by simp) nt_lst, k _ _ h.hu (by simp) nt_lst, k _ _ h.hw (by simp) nt_lst, .nil, .nil, h.n1, h.n2, h.n3, h.dl, h.wl⟩
end
theorem hid_ext {ms : List Addr} {H H' : Hp} (k : LamX.ExtN H H') : KpN [] (hid ms H) (hid ms H') := fun b o e _ n => by
  obtain ⟨z, e1⟩ := hid_some e
  rw [hid_out z]
  exact k b o e1 n
end K75
-- part X2
set_option Elab.async false
set_option linter.all false
set_option maxRecDepth 100000
set_option maxHeartbeats 4000000
namespace K75
open PySem PySem.Spec PyProof.Rows L2
/-- lists, instances of CF and dicts alone -/
def Soft (CF : Addr) (H : Hp) (D : List Addr) : Prop := ∀ x ∈ D, ∀ u, H x = some u → Vol CF u ∨ ∃ kvs, u = .dK kvs
theorem tabs_soft {T : List (Addr × Str)} {D : List Addr} {H H' : Hp} {CF : Addr} (t : LamX.Tabs T H) (k : Kp D H H') (hD : Soft CF H D) : LamX.Tabs T H' := tabs_kp t k fun x hx u e => by
  rcases hD x hx u e with (⟨xs, z⟩ | ⟨dx, fs, z⟩) | ⟨kvs, z⟩
  · rw [z]; exact ⟨(fun ps z => nomatch z), fun c q z => nomatch z⟩
  · rw [z]; exact ⟨(fun ps z => nomatch z), fun c q z => nomatch z⟩
  · rw [z]; exact ⟨(fun ps z => nomatch z), fun c q z => nomatch z⟩
theorem sqx_soft {K : PySem.W.Frag} {a : Addr} {xs : List V} {D : List Addr} {H H' : Hp} {CF : Addr} (h : SqX K H a xs) (k : Kp D H H') (hD : Soft CF H D) : SqX K H' a xs := h.kp k fun x hx o u e => by
  rcases hD x hx _ e with (⟨xs, z⟩ | ⟨dx, fs, z⟩) | ⟨kvs, z⟩
  · exact nomatch z
  · exact nomatch z
  · exact nomatch z
theorem soft_vol {CF : Addr} {H : Hp} {D : List Addr} (v : VolAt CF H D) : Soft CF H D := fun x hx u e => by
  obtain ⟨o, e2, z⟩ := v x hx
  rw [e2] at e
  cases e
  exact .inl z
theorem soft_app {CF : Addr} {H : Hp} {D E : List Addr} (a : Soft CF H D) (b : Soft CF H E) : Soft CF H (D ++ E) := fun x hx u e => (List.mem_append.mp hx).elim (fun z => a x z u e) fun z => b x z u e
theorem soft_lst {CF : Addr} {H : Hp} {p : Addr} {xs : List V} (h : H p = some (.lst xs)) : Soft CF H [p] := fun x hx u e => by
  rw [List.mem_singleton.mp hx, h] at e
  cases e
  exact .inl (.inl ⟨_, rfl⟩)
theorem soft_dK {CF : Addr} {H : Hp} {p : Addr} {kvs : List (Key × V)} (h : H p = some (.dK kvs)) : Soft CF H [p] := fun x hx u e => by
  rw [List.mem_singleton.mp hx, h] at e
  cases e
  exact .inr ⟨_, rfl⟩
theorem tabs_kp0 {T : List (Addr × Str)} {H H' : Hp} (t : LamX.Tabs T H) (k : Kp [] H H') : LamX.Tabs T H' := tabs_kp t k fun x hx => by cases hx
section
variable {P : Program} {w : World} {K : PySem.W.Frag} {mg : Str → Option Value} {base : Heap} {CB CC CF : Addr}
theorem sc_lamW : NdefX.NScope ["name", "amount", "amounts"] ["name", "amount"] ["amounts"] { kind := .function, names := [("name", .local), ("amount", .local), ("amounts", .free)], isGenerator := false, isCoroutine := false } :=
  ⟨rfl, rfl, rfl, by decide +kernel, rfl, by decide +kernel, by decide +kernel, by decide +kernel, by decide +kernel⟩
theorem SqX.kpn {K : PySem.W.Frag} {H H' : Hp} {a : Addr} {xs : List V} {D : List Addr} (h : SqX K H a xs) (k : KpN D H H') (hD : ∀ x ∈ D, ∀ o u, H x ≠ some (.frz o u)) : SqX K H' a xs :=
  h.elim (fun ⟨o, e⟩ => .inl ⟨o, k _ _ e (fun z => hD a z _ _ e) (fun ps z => nomatch z)⟩) .inr
theorem reel_nfrz {H : Hp} {r : Addr} (h : Reel H r) : ∀ x ∈ [r], ∀ o u, H x ≠ some (.frz o u) := fun x hx o u e => by
  obtain ⟨a, b, c, z⟩ := h
  rw [List.mem_singleton.mp hx, z] at e
  cases e
def sp_law (K : PySem.W.Frag) (Ts : List (Addr × Str)) : Sp := fun vs H Q _ => ∃ (a : Addr) (ns : List Int), vs = [.ref a] ∧ SqX K H a (ns.map V.int) ∧ LamX.Tabs Ts H ∧ ∀ H', Q (.bl true) H'
theorem c_law (T : Ty K mg CB CC CF) {cP PT cL PL : Addr} {Ts : List (Addr × Str)} (F : DefC K mg "_law_plan" s_plan cP) (TB : LamX.TabB base mg cP PT) (hm0 : (PT, lamQ "_law_plan") ∈ Ts) (hu0 : ∀ p ∈ Ts, p.1 = PT → p.2 = lamQ "_law_plan")
    (FL : DefC K mg "law" s_law cL) (TBL : LamX.TabB base mg cL PL) (hmL : (PL, lamQ "law") ∈ Ts) (huL : ∀ p ∈ Ts, p.1 = PL → p.2 = lamQ "law") : C8.Cal P w K mg base 11 "law" (sp_law K Ts) [] := by
  refine cal_ofC FL sc_law (fun _ _ _ _ _ _ us hl => match us, hl with | [_], _ => rfl) (fun vs H Q E h => ?_) (fun A outer f0 s0 H vs Q E hr h => ?_)
  · obtain ⟨r, ns, rfl, _⟩ := h
    rfl
  · obtain ⟨a, ns, rfl, hX, hT, k⟩ := h
    have h3 : sizeLine = 16777216 := sizeLine_eq
    refine ⟨_, (pss_cons (ps_for PassesOwn.never rfl (pi_range1 (by rfl) T.n_range (pa_cons (pe_callB (call_max2 rfl) (by rfl) T.n_max (by decide +kernel) (pa_cons pe_int (pa_cons (pe_callB (call_min2 rfl) (by rfl) T.n_min (by decide +kernel) (pa_cons pe_int (pa_cons (pe_callB call_len_seq (by rfl) T.n_len (by decide +kernel) (pa_cons (pv 0) pa_nil)) pa_nil))) pa_nil))) pa_nil)) (pg_name (i := 1) sc_law.nd rfl (Or.inl rfl))
    (pss_cons (ps_set (i := 2) sc_law.nd rfl (Or.inl rfl) (C8.pe_c (c_reel T.toTx) hr (by decide) (by rfl) (pa_cons (pv 0) (pa_cons (pv 1) pa_nil))))
    (pss_cons (ps_set (i := 3) sc_law.nd rfl (Or.inl rfl) (C8.pe_c (c_shelf_plan T F TB hm0 hu0) hr (by decide) (by rfl) (pa_cons (pv 2) pa_nil)))
    (pss_cons (ps_asg (pe_tup (pa_cons (C8.pe_mk (mks_pos T) hr (by decide) (by rfl) (pa_cons (C8.pe_c (c_cutter T) hr (by decide) (by rfl) (pa_cons (pv 3) pa_nil)) pa_nil)) (pa_cons (pe_lst (pa_cons pe_int pa_nil)) (pa_cons pe_dnewK pa_nil)))) (pg_tupK (K := K) (n := 3) rfl (by rfl) (pgs_cons (pg_name (i := 4) sc_law.nd rfl (Or.inl rfl)) (pgs_cons (pg_name (i := 5) sc_law.nd rfl (Or.inl rfl)) (pgs_cons (pg_name (i := 7) sc_law.nd rfl (Or.inr rfl)) pgs_nil)))))
    (pss_cons (ps_expr (C8.pe_mt (c_Shelf_watch T) hr (by decide) (pv 4) (pa_cons (pe_lamK (T := Ts) TBL rfl hmL huL rfl (show ∀ y ∈ ([("name", .local), ("amount", .local), ("amounts", .free)] : List (Str × NameKind)), y.2 = NameKind.free → List.lookup y.1 (defScope s_law).names = some .cell ∨ List.lookup y.1 (defScope s_law).names = some .free by decide +kernel)) pa_nil)))
    (pss_cons (ps_set (i := 6) sc_law.nd rfl (Or.inl rfl) (pe_cB (fun b => c_walk (base := b) T) hr (by decide) (by rfl) (pa_cons (pe_lst (pa_cons pe_int (pa_cons (pe_ix (ix_listK (K := K) rfl) (pv 2) pe_int (fun _ _ => rfl)) (pa_cons (pe_ix (ix_listK (K := K) rfl) (pv 2) pe_int (fun _ _ => rfl)) pa_nil)))) (pa_cons (pv 0) (pa_cons (pv 3) (pa_cons (pv 4) (pa_cons (pv 5) pa_nil)))))))
    (pss_cons (ps_if (PW.pt (pw_or (pt_cmpR op_ne (pe_pr (c_Shelf_total T) hr (by decide) (pv 4)) (pe_ix (ix_listK (K := K) rfl) (pv 5) pe_int (fun _ _ => rfl)) (nomark _)) (pw_or1 (pt_cmpR op_ne (pe_pr (c_Shelf_lag T) hr (by decide) (pv 4)) (pe_callB (cr_sum rfl) (by rfl) T.n_sum (by decide +kernel) (pa_cons (pe_listVals rfl (pv 7) (by rfl) T.n_list (by decide +kernel)) pa_nil)) (nomark _)))))
      (pss_one (ps_ret pe_bl))
      pss_nil)
    (pss_cons (ps_if (pt_not (pt_val (C8.pe_c (c_others T) hr (by decide) (by rfl) (pa_cons (pv 2) (pa_cons (pv 3) (pa_cons (pv 4) (pa_cons (pe_ix (ix_listK (K := K) rfl) (pv 6) (pe_un un_neg pe_int) (fun _ _ => rfl)) pa_nil)))))))
      (pss_one (ps_ret pe_bl))
      pss_nil)
    (pss_one (ps_if (pt_not (pt_val (pe_cB (fun b => c_back (base := b) T) hr (by decide) (by rfl) (pa_cons (pv 4) (pa_cons (pv 6) pa_nil)))))
      (pss_one (ps_ret pe_bl))
      pss_nil))))))))))
  (pss_one (ps_ret pe_bl))), ?_⟩
    refine ⟨_, rfl, a, _, rfl, .inl hX.sq, _, _, rfl, _, _, rfl, ?_⟩
    obtain ⟨m, hm1, hm2⟩ : ∃ m : Nat, (if (if (((List.map V.int ns).length : Nat) : Int) < 3 then (((List.map V.int ns).length : Nat) : Int) else 3) > 1 then (if (((List.map V.int ns).length : Nat) : Int) < 3 then (((List.map V.int ns).length : Nat) : Int) else 3) else 1) = (m : Int) ∧ m ≤ 3 := by
      refine ⟨(if (if (((List.map V.int ns).length : Nat) : Int) < 3 then (((List.map V.int ns).length : Nat) : Int) else 3) > 1 then (if (((List.map V.int ns).length : Nat) : Int) < 3 then (((List.map V.int ns).length : Nat) : Int) else 3) else 1).toNat, ?_, ?_⟩
      · split <;> split <;> omega
      · split <;> split <;> omega
    rw [hm1]
    refine ⟨m, by rfl, by omega, by omega, ?_⟩
    refine for_range (n := m) (fun i σ' H' => ∃ (x1 x2 x3 x4 x5 x6 x7 : Option V), σ' = [some (.ref a), x1, x2, x3, x4, x5, x6, x7] ∧ SqX K H' a (ns.map V.int) ∧ LamX.Tabs Ts H') ⟨_, _, _, _, _, _, _, rfl, hX, hT⟩ ?_ ?_
    · rintro i σ' H1 hi ⟨x1, x2, x3, x4, x5, x6, x7, rfl, hX1, hT1⟩
      refine ⟨_, rfl, _, rfl, a, ns, i, by rw [Int.zero_add]; rfl, hX1.sq, by omega, fun r x y z hr0 => ?_⟩
      have k2 : Kp [] H1 (upd H1 r (.lst [.int x, .int y, .int z])) := (kp_refl H1).up (.inl hr0)
      have hR2 : Reel (upd H1 r (.lst [.int x, .int y, .int z])) r := reel_same x y z
      have hX2 := hX1.kp0 k2
      have hT2 := tabs_kp0 hT1 k2
      generalize upd H1 r (.lst [.int x, .int y, .int z]) = H2 at k2 hR2 hX2 hT2
      refine ⟨_, rfl, r, rfl, hR2, hT2, fun q d o tb en bk pl H3 g gp hsp hpl k3 hR3 hT3 => ?_⟩
      have hX3 := hX2.kpn k3 (reel_nfrz hR2)
      clear k3 hX2 hT2 k2 hR2 hX1 hT1 hr0
      refine ⟨_, rfl, q, d, o, tb, en, bk, pl, rfl, g, hpl, gp, fun c bl H4 hb hc4 k4 => fun s dx0 hs0 hdx0 hns0 => ?_⟩
      have kall : Kp [] H4 (upd (upd H4 dx0 (.own s)) s (.ins CF dx0 [])) := ((kp_refl H4).up (.inl hdx0)).up (.inl hs0)
      refine ⟨s, dx0, c, .non, bl, pl, [], rfl, upd_same, by show CutH CB CC (hid [] _) c bl pl; rw [hid_nil]; exact hc4.kp0 kall, .inr ⟨rfl, rfl⟩, ⟨List.nodup_nil, Nat.zero_le _, (fun p hp => by cases hp), (fun p hp => by cases hp)⟩, fun H5 fp sh5 fr k5 => ⟨rfl, ?_⟩⟩
      have k35 : Kp [] H3 H5 := k4.trans (kp_fresh ((kall.any [s]).trans k5) (fun y hy => by rw [List.mem_singleton.mp hy]; exact .inr hs0))
      have fr3 : ∀ y ∈ fp, H3 y = none := fun y hy => by
        rcases fr y hy with z | z
        · rw [z]; exact k4.free hs0 (by simp)
        · exact k4.free (kall.free z (by simp)) (by simp)
      clear kall k5 fr hs0 hdx0 hns0 hc4
      refine ⟨by show 1 ≤ sizeLine; omega, fun sa hsa => fun mm hmm => ⟨by show 3 ≤ sizeLine; omega, fun tp htp => ?_⟩⟩
      obtain ⟨hmm1, nms⟩ := none_of_upd hmm
      obtain ⟨htp1, ntm⟩ := none_of_upd htp
      obtain ⟨htp2, nts⟩ := none_of_upd htp1
      have k56 : Kp [] H5 (upd (upd (upd H5 sa (.lst [.int 0])) mm (.dK [])) tp (.tup [.ref s, .ref sa, .ref mm])) := (((kp_refl H5).up (.inl hsa)).up (.inl hmm1)).up (.inl htp2)
      have sa6 : upd (upd (upd H5 sa (.lst [.int 0])) mm (.dK [])) tp (.tup [.ref s, .ref sa, .ref mm]) sa = some (.lst [.int 0]) := by rw [upd_ne nts.symm, upd_ne nms.symm, upd_same]
      have m6 : upd (upd (upd H5 sa (.lst [.int 0])) mm (.dK [])) tp (.tup [.ref s, .ref sa, .ref mm]) mm = some (.dK []) := by rw [upd_ne ntm.symm, upd_same]
      have t6 : upd (upd (upd H5 sa (.lst [.int 0])) mm (.dK [])) tp (.tup [.ref s, .ref sa, .ref mm]) tp = some (.tup [.ref s, .ref sa, .ref mm]) := upd_same
      refine ⟨tp, _, rfl, SqT.of t6, rfl, _, _, rfl, _, _, rfl, _, _, rfl, rfl, ?_⟩
      generalize upd (upd (upd H5 sa (.lst [.int 0])) mm (.dK [])) tp (.tup [.ref s, .ref sa, .ref mm]) = H6 at k56 sa6 m6 t6
      clear htp htp1 htp2 hmm
      have m3 : H3 mm = none := k35.free hmm1 (by simp)
      have kh56 : Kp [] H5 (hid [mm] H6) := fun b u e _ => by
        rw [hid_out (by simpa using ne_of_none e hmm1)]
        exact k56 b u e (by simp)
      have sh6 : ShelfH CB CC CF (hid [mm] H6) s bl pl [] [] [] [] fp := sh5.kp0 kh56
      have nsafp : sa ∉ fp := fun z => by
        obtain ⟨u, e, _⟩ := sh5.vol sa z
        rw [hsa] at e
        cases e
      have nmfp : mm ∉ fp := fun z => by
        obtain ⟨u, e, _⟩ := sh5.vol mm z
        rw [hmm1] at e
        cases e
      have hT6 := tabs_kp0 hT3 (k35.trans k56)
      obtain ⟨dx, fs, eS, nw⟩ : ∃ dx fs, H6 s = some (.ins CF dx fs) ∧ fs.lookup ("watch" : Str) = none := by
        obtain ⟨dx, c, tx, sm, ld, lu, lw, rw0, ds, us, _, a0⟩ := sh6
        exact ⟨_, _, (hid_some a0.hs).2, rfl⟩
      refine ⟨_, rfl, s, dx, _, rfl, eS, nw, hT6, fun fL c1 H7 eN hT7 fn0 f1 e1 => ⟨s, bl, pl, [], [], [], fp, [mm], fL, _, rfl, sh6.kpn (hid_ext eN), f1, fun H8 sh8 k8 => ?_⟩⟩
      obtain ⟨L, cc, f1, e1, hcc, wok⟩ : ∃ (L : LF) (cc : Addr), H7 fL = some (LamO fL L) ∧ H7 L.c = some (LamX.CodeO L.c L.qual) ∧ (envOfC "law" (defScope s_law) s0.heap.objs.size f0 (.ref cL)).cells.lookup ("amounts" : Str) = some cc ∧ ∀ b : Heap, b.IsCell cc (some (.ref mm)) → WtOk P w K mg b ⟨fL, L, mm⟩ :=
        ⟨_, _, f1, e1, rfl, fun b hb => wt_ok (cc := s0.heap.objs.size + 1) sc_lamW rfl hb (fun _ _ _ _ => rfl) rfl rfl⟩
      have sh7 := sh6.kpn (hid_ext eN)
      have v7 : VolAt CF H7 fp := vol_hid sh7.vol
      have keep8 : ∀ b u, H3 b = some u → (∀ ps, u ≠ .tbl ps) → H8 b = some u := fun b u e n =>
        k8 _ _ (eN b u (k56 _ _ (k35 _ _ e (by simp)) (by simp)) n) fun z => by rw [fr3 b z] at e; cases e
      have kn8 : KpN [] H3 H8 := fun b u e _ n => keep8 b u e n
      have kh8 : KpN [] H3 (hid [mm] H8) := fun b u e _ n => by
        rw [hid_out (by simpa using ne_of_none e m3)]
        exact keep8 b u e n
      have hX8 := hX3.kpn kn8 (fun x hx => by cases hx)
      have hT8 : LamX.Tabs Ts H8 := tabs_soft (CF := CF) hT7 k8 (soft_vol v7)
      have hpl8 := hpl.kpn kh8
      have sa8 : H8 sa = some (.lst [.int 0]) := k8 _ _ (eN _ _ sa6 nt_lst) nsafp
      have wt8 : WtH H8 ⟨fL, L, mm⟩ [] := WtH.kp (⟨f1, e1, eN _ _ m6 nt_dK⟩ : WtH H7 ⟨fL, L, mm⟩ []) k8 v7
      obtain ⟨ra, rb, rc, r3⟩ := hR3
      have r8 : H8 r = some (.lst [.int ra, .int rb, .int rc]) := keep8 _ _ r3 nt_lst
      have nrfp : r ∉ fp := fun z => by rw [fr3 r z] at r3; cases r3
      refine ⟨_, rfl, _, _, _, _, rfl, rfl, SqL.of r8, atI_nat (j := 1) rfl, _, rfl, _, _, _, _, rfl, rfl, SqL.of r8, atI_nat (j := 2) rfl, by show 3 ≤ sizeLine; omega, fun p hp => ?_⟩
      have k9 : Kp [] H8 (upd H8 p (.lst [.int 0, .int rb, .int rc])) := (kp_refl H8).up (.inl hp)
      have hR9 : Reel (upd H8 p (.lst [.int 0, .int rb, .int rc])) p := reel_same 0 rb rc
      have npr : r ≠ p := ne_of_none r8 hp
      have npsa : sa ≠ p := ne_of_none sa8 hp
      have npm : mm ≠ p := ne_of_none wt8.hm hp
      have npfp : p ∉ fp := fun z => by
        obtain ⟨u, e, _⟩ := sh8.vol p z
        rw [(hid_some e).2] at hp
        cases hp
      refine ⟨_, rfl, _, rfl, _, rfl, _, rfl, fun b hcb => ?_⟩
      generalize upd H8 p (.lst [.int 0, .int rb, .int rc]) = H9 at k9 hR9
      have hwt : WtOk P w K mg b ⟨fL, L, mm⟩ := by
        obtain ⟨u, ru, hu⟩ := hcb 7 "amounts" (.ref mm) cc rfl rfl rfl (show List.lookup ("amounts" : Str) (defScope s_law).names = some .cell by decide +kernel) hcc
        obtain rfl : u = Value.ref mm := ru
        exact wok b hu
      have in9 : ShIn P w K mg b CB CC CF H9 s bl pl [] [] [] (some ⟨fL, L, mm⟩) [] [mm] fp :=
        ⟨sh8.kp0 (hid_kp k9 fun x hx => by cases hx), fun W e => by cases e; exact wt8.kp k9 (CF := CF) vol_nil, fun W e => by cases e; exact hwt, fun W e => by cases e; exact List.mem_singleton_self _, fun x hx => by rw [List.mem_singleton.mp hx]; exact ⟨_, k9 _ _ wt8.hm (by simp)⟩, by simp⟩
      refine ⟨p, a, q, d, o, tb, en, s, sa, ns, bk, bl, pl, some ⟨fL, L, mm⟩, [mm], fp, rfl, hR9, hX8.kp0 k9, g, gp, hpl8.kp0 (hid_kp k9 fun x hx => by cases hx), hb, in9, k9 _ _ sa8 (by simp), npfp, nsafp, npsa.symm, ?_, fun l H10 j fas f1 Ss S dn am fp' H11 k10 l0 hl W hj1 hj2 => ?_⟩
      · simpa using nms.symm
      have s3 : H3 sa = none := k35.free hsa (by simp)
      have nrm : r ≠ mm := ne_of_none r3 m3
      have nrsa : r ≠ sa := ne_of_none r3 s3
      have nrl : r ≠ l := ne_of_none (k9 _ _ r8 (by simp)) l0
      have k810 : Kp [] H8 H10 := k9.trans k10
      have r10 := k810 _ _ r8 (by simp)
      have sa10 := k810 _ _ sa8 (by simp)
      have m10 := k810 _ _ wt8.hm (by simp)
      have sh10 := sh8.kp0 (hid_kp k810 fun x hx => by cases hx)
      have pl10 := hpl8.kp0 (hid_kp (ms := [mm]) k810 fun x hx => by cases hx)
      have nlfp : l ∉ fp := fun z => by
        obtain ⟨u, e, _⟩ := in9.sh.vol l z
        rw [(hid_some e).2] at l0
        cases l0
      have nlm : l ≠ mm := fun z => by
        rw [z, k9 _ _ wt8.hm (by simp)] at l0
        cases l0
      obtain ⟨lxs, hl⟩ := hl
      have nlfp' : l ∉ fp' := W.nfp hl nlfp
      have nrfp' : r ∉ fp' := W.nfp r10 nrfp
      have r11 : H11 r = some (.lst [.int ra, .int rb, .int rc]) := W.at r10 nrfp (by simpa [wms] using nrm) nrsa nrl
      have pl11 : PlanH H11 q d o tb en bk pl := by
        have kG : Kp (fp ++ [sa, l]) (hid [mm] H10) (hid [mm] H11) := hid_kp W.kp fun x hx => by
          rcases List.mem_append.mp hx with z | z
          · rcases List.mem_append.mp z with y | y
            · exact .inl (List.mem_append_left _ y)
            · exact .inr (.inl y)
          · exact .inl (List.mem_append_right _ z)
        have v1 : VolAt CF (hid [mm] H10) (fp ++ [sa, l]) := fun x hx => by
          rcases List.mem_append.mp hx with z | z
          · exact sh10.vol x z
          · simp only [List.mem_cons, List.not_mem_nil, or_false] at z
            rcases z with z | z <;> rw [z]
            · exact ⟨_, by rw [hid_out (by simpa using nms.symm)]; exact sa10, .inl ⟨_, rfl⟩⟩
            · exact ⟨_, by rw [hid_out (by simpa using nlm)]; exact hl, .inl ⟨_, rfl⟩⟩
        exact (pl10.kp kG v1).kp0 (hid_sub [mm] _)
      have soft10 : Soft CF H10 (fp ++ wms (some ⟨fL, L, mm⟩) ++ [sa, l]) := soft_app (soft_app (soft_vol (vol_hid sh10.vol)) (soft_dK m10)) (soft_app (D := [sa]) (soft_lst sa10) (soft_lst hl))
      have hX11 := sqx_soft (hX8.kp0 k810) W.kp soft10
      have hT11 := tabs_soft (tabs_kp0 hT8 k810) W.kp soft10
      have wh11 := W.wh _ rfl
      have sf11 := W.sh.kp0 (hid_sub [mm] H11)
      have okS : S.length ≤ 50 := by
        obtain ⟨dx, c, tx, sm, ld, lu, lw, rw0, ds, us, _, a0⟩ := W.sh
        exact a0.ok.le
      obtain ⟨dx11, fs11, e11⟩ : ∃ dx fs, H11 s = some (.ins CF dx fs) := by
        obtain ⟨dx, c, tx, sm, ld, lu, lw, rw0, ds, us, _, a0⟩ := sf11
        exact ⟨_, _, a0.hs⟩
      refine ⟨_, rfl, s, dx11, _, rfl, e11, s, bl, pl, S, dn, [], _, _, rfl, sf11, _, rfl, _, _, _, _, rfl, rfl, SqL.of W.sm, atI_nat (j := 0) rfl, rfl, _, rfl, iteF' (by simp) ?_⟩
      have hvals : ((dV ova am).map (·.2)) = (am.map fun p => p.2.getD 0).map V.int := by
        unfold dV
        rw [List.map_map, List.map_map]
        refine List.map_congr_left fun p hp => ?_
        obtain ⟨p0, _, rfl⟩ := List.mem_map.mp (W.am.mem_iff.mp hp)
        rfl
      have hsum : (am.map fun p => p.2.getD 0).sum = sumW (bhM bl pl) S := by
        rw [sum_permI (W.am.map _), List.map_map]
        rfl
      refine ⟨_, rfl, s, dx11, _, rfl, e11, s, bl, pl, S, dn, [], _, _, rfl, sf11, _, rfl, mm, _, rfl, wh11.hm, fun q2 hq2 => ⟨q2, am.map fun p => p.2.getD 0, rfl, SqL.of (by rw [← hvals]; exact upd_same), rfl, _, rfl, iteF' (by rw [hsum]; simp) ?_⟩⟩
      have k12 : Kp [] H11 (upd H11 q2 (.lst ((dV ova am).map (·.2)))) := (kp_refl H11).up (.inl hq2)
      generalize upd H11 q2 (.lst ((dV ova am).map (·.2))) = H12 at k12
      have r12 := k12 _ _ r11 (by simp)
      have l12 : H12 l = some (.lst (fas.map V.ref ++ [V.ref f1])) := by
        have := k12 _ _ W.fl (by simp)
        rw [List.map_append] at this
        exact this
      have W12 := W.kp0 k12
      refine ⟨_, rfl, _, rfl, _, rfl, _, rfl, _, rfl, _, _, _, .ref f1, rfl, rfl, SqL.of l12, atI_end _ _, r, q, d, o, tb, en, s, f1, bk, bl, pl, S, dn, _, fp', rfl, ⟨_, _, _, r12⟩, g, gp, hsp, pl11.kp0 k12, hb, sf11.kp0 k12, W12.ff.1, W.ne hj1, (fun p0 hp0 => by have := W.tl p0 hp0; omega), nrfp', fun H13 k13 => ⟨_, rfl, ?_⟩⟩
      have nrms : r ∉ [mm] := by simpa using nrm
      refine ⟨_, rfl, _, rfl, fun b2 hcb2 => ?_⟩
      have hwt2 : WtOk P w K mg b2 ⟨fL, L, mm⟩ := by
        obtain ⟨u, ru, hu⟩ := hcb2 7 "amounts" (.ref mm) cc rfl rfl rfl (show List.lookup ("amounts" : Str) (defScope s_law).names = some .cell by decide +kernel) hcc
        obtain rfl : u = Value.ref mm := ru
        exact wok b2 hu
      have aml : am.length ≤ 50 := by
        have := W.am.length_eq
        rw [List.length_map] at this
        omega
      have in12 : ShIn P w K mg b2 CB CC CF H12 s bl pl S dn [] (some ⟨fL, L, mm⟩) am [mm] fp' :=
        ⟨W12.sh, W12.wh, fun W e => by cases e; exact hwt2, fun W e => by cases e; exact List.mem_singleton_self _, fun x hx => by rw [List.mem_singleton.mp hx]; exact ⟨_, (W12.wh _ rfl).hm⟩, by omega⟩
      have in13 := shin_lst in12 k13 r12 nrfp' nrms T.n_BF T.n_CF
      have l13 : H13 l = some (.lst ((fas ++ [f1]).map .ref)) := k13 _ _ W12.fl (by simpa using nrl.symm)
      have keepD : ∀ {b : Addr} {A : Tb}, H12 b = some (.dK (dV tv A)) → H13 b = some (.dK (dV tv A)) := fun {b A} e => k13 _ _ e fun z => by
        rw [List.mem_singleton.mp z, r12] at e
        cases e
      refine ⟨s, l, bl, pl, some ⟨fL, L, mm⟩, am, [mm], fp', fas ++ [f1], Ss, S, dn, rfl, in13, W.ch, W.z0, l13, paired_snoc (L2.Paired.mapP W12.fd fun p A z => ⟨keepD z.1, z.2⟩) ⟨keepD W12.ff.1, W12.ff.2⟩, nlfp', by omega, by have := W.dl; omega, fun H14 k14 => ⟨_, rfl, ?_⟩⟩
      have soft13 : Soft CF H13 (fp' ++ wms (some ⟨fL, L, mm⟩)) := soft_app (soft_vol (vol_hid in13.sh.vol)) (soft_dK (in13.wh _ rfl).hm)
      exact ⟨_, _, _, _, _, _, _, rfl, sqx_soft (sqx_soft (hX11.kp0 k12) k13 (soft_lst (CF := CF) r12)) k14 soft13, tabs_soft (tabs_soft (tabs_kp0 hT11 k12) k13 (soft_lst (CF := CF) r12)) k14 soft13⟩
    · rintro σ' H1 ⟨x1, x2, x3, x4, x5, x6, x7, rfl, _, _⟩
      exact k _
end
end K75
-- part G1
set_option Elab.async false
set_option linter.all false
set_option maxRecDepth 100000
set_option maxHeartbeats 4000000
namespace K75
open PySem PySem.Spec PyProof.Rows L2
/-! a promise for calls under which no repr is under way -/
def FnGR (P : Program) (w : World) (K : PySem.W.Frag) (mg : Str → Option Value) (base : Heap) (k : Nat) (f : Addr) (sp : Sp) : Prop :=
  ∀ (A : Around) (outer : List Env) (s : Shared) (H : Hp) (us : List Value) (vs : List V) (Q : VK) (E : XK), A.guards = some [] → Room k A → Env0 P w K mg base A outer s H → Vals vs us → sp vs H Q E →
    codeAny (model P w) A (.call (.ref f) ⟨us, []⟩) (CR CX0 outer P w H s Q E) s
def CalG (P : Program) (w : World) (K : PySem.W.Frag) (mg : Str → Option Value) (base : Heap) (k : Nat) (x : Str) (sp : Sp) : Prop :=
  ∃ f, mg x = some (.ref f) ∧ PySem.W.keepIn K (.ref f) = true ∧ FnGR P w K mg base k f sp
section
variable {P : Program} {w : World} {K : PySem.W.Frag} {mg : Str → Option Value} {base : Heap} {x qual : Str} {st : Stmt} {N ps : List Str} {k : Nat} {sp : Sp}
abbrev BodyG (P : Program) (w : World) (K : PySem.W.Frag) (mg : Str → Option Value) (base : Heap) (qual : Str) (st : Stmt) (N : List Str) (k : Nat) (sp : Sp) : Prop :=
  ∀ (cdv : Value) (A : Around) (outer : List Env) (f : Addr) (s : Shared) (H : Hp) (vs : List V) (Q : VK) (E : XK), A.guards = some [] → Room k (A.deeper (envOfC qual (defScope st) s.heap.objs.size f cdv)) → sp vs H Q E →
      ∃ t, PSs (cxOf CX0 P w K mg base N qual (defScope st) f cdv A outer s H E).nox (defBody st) t ∧ t { nx := fun _ H' => Q .non H', rt := Q } (start N vs) H
theorem fnGR_of {f : Addr} {fd : FuncData} (F : FunD K x qual (defArgs st) (defBody st) (defScope st) [] [] f fd) (S : FnScope N ps (defScope st)) (hb : BindAll x qual st ps) (len : ∀ vs H Q E, sp vs H Q E → vs.length = ps.length)
    (hbody : BodyG P w K mg base qual st N k sp) : FnGR P w K mg base (k + 1) f sp := by
  have bd := F.bindsN hb
  obtain ⟨oc, od, dV, kV, doc, pm, an, cdv, ct, osl, rfl, lk, hcd, _, _⟩ := F.ex
  intro A outer s H us vs Q E hg hr e0 r hsp
  refine StX.run_bnd lk hcd S hr e0 (G := fun ys H2 => ys = vs ∧ H2 = H) (fun A' Ex Q' go => ?_) fun s2 H2 ys ⟨e1, e2⟩ hr2 => ?_
  · have hl : (us ++ ([] : List Value)).length = ps.length := by
      rw [List.append_nil, ← r.length]
      exact len _ _ _ _ hsp
    have := bd s us (e0.mod.kin.keeps fun b o e => (e0.bs b o e).1) hl
    rw [List.append_nil] at this
    exact this _ _ _ _ (go s H vs us e0 Un.refl rfl (fun e s' h => h) r (len _ _ _ _ hsp) ⟨rfl, rfl⟩)
  · subst e1
    subst e2
    obtain ⟨t, ht, q⟩ := hbody cdv A outer f s2 H2 ys Q E hg hr2 hsp
    exact ⟨t, ht.nox, q⟩
theorem calG_of (F : DefF K mg x st) (S : FnScope N ps (defScope st)) (hb : BindAll x x st ps) (len : ∀ vs H Q E, sp vs H Q E → vs.length = ps.length) (hbody : BodyG P w K mg base x st N k sp) : CalG P w K mg base (k + 1) x sp := by
  obtain ⟨f, fd, F, hm⟩ := F
  exact ⟨f, hm, F.kp, fnGR_of F S hb len hbody⟩
end
section
variable {X : Cx} {k j : Nat} {x : Str} {sp : Sp} {p pos : Pos} {e : Expr} {es : List Expr} {t : TA}
theorem pe_cg (c : CalG X.prog X.w X.K X.mg X.base k x sp) (hg0 : X.A.guards = some []) (hr : Room j X.A) (hk : k ≤ j) (hg : Gl X x) (ha : PA X (e :: es) t)
    (hdb : (x == ("__debug__" : Str)) = false := by decide) (he : starEach (e :: es) X.env = (false, eval e X.env) :: starEach es X.env := by rfl) (hpl : (backTo pos (starEach es X.env)).any (·.1) = false := by rfl) :
    PE X (.Call (.Name x p) (e :: es) [] pos) (fun σ H Q => t σ H fun vs H1 => sp vs H1 Q E0) := by
  refine ⟨fun pins s σ H Q I h => ?_⟩
  obtain ⟨f, hm, kp, F⟩ := c
  refine wpAny_Call_Name_kw (ld_glob I hg hm ?_ hdb)
  refine PySem.W.callWith_K (h₀ := X.base) I.ok.mod.kin kp (thn (ha.run pos pins s σ _ _ I h) fun us s2 ⟨vs, H2, I2, r, q⟩ => ⟨I2.kIn, ?_⟩) he hpl
  refine wpAny_call (codeAny_mono (F X.A X.stack s2 H2 us vs Q E0 hg0 (hr.mono hk) I2.env0 r q) fun r s' hq => ?_)
  cases r with
  | error er => exact pass0 pins σ H2 s2 er s' I2 hq
  | ok fl =>
    cases fl with
    | ret u => exact I2.after hq
    | next => exact False.elim hq
    | brk => exact False.elim hq
    | cont => exact False.elim hq
end
end K75
-- part E1
set_option Elab.async false
set_option linter.all false
set_option maxRecDepth 100000
set_option maxHeartbeats 4000000
namespace K75
open PySem PySem.Spec PyProof.Rows L2
/-! the end of a law whose promise is for callers under whom no repr is under way -/
abbrev noTab : Obj := { cls := .none, data := .fields #[] }
abbrev scrO (vs : List Value) : Obj := { cls := .type "list", data := .seq vs.toArray }
/-- what is tracked when the law is called: the tables, and the script where it is not written -/
def hp0 (K : PySem.W.Frag) (ts : List Addr) (a : Addr) (vs : List Value) (ns : List Int) : Hp := fun b =>
  if b ∈ ts then some (.tbl #[]) else if b = a ∧ K.lookup a = none then some (.frz (scrO vs) (.lst (ns.map V.int))) else none
section
variable {P : Program} {w : World} {K : PySem.W.Frag} {ts : List Addr} {a b : Addr} {vs : List Value} {ns : List Int} {s : Shared} {u : HO} {o : Obj}
theorem hp0_tab (h : b ∈ ts) : hp0 K ts a vs ns b = some (.tbl #[]) := if_pos h
theorem hp0_scr (h : a ∉ ts) (n : K.lookup a = none) : hp0 K ts a vs ns a = some (.frz (scrO vs) (.lst (ns.map V.int))) := (if_neg h).trans (if_pos ⟨rfl, n⟩)
theorem hp0_is (h : hp0 K ts a vs ns b = some u) : (b ∈ ts ∧ u = .tbl #[]) ∨ (b = a ∧ K.lookup a = none ∧ u = .frz (scrO vs) (.lst (ns.map V.int))) := by
  unfold hp0 at h
  split at h
  · rename_i m
    exact .inl ⟨m, (Option.some.inj h).symm⟩
  · split at h
    · rename_i m
      exact .inr ⟨m.1, m.2, (Option.some.inj h).symm⟩
    · cases h
/-- an object that is neither a table nor a sequence is not tracked -/
theorem hp0_not (hT : ∀ t ∈ ts, s.heap.get? t = some noTab) (ha : s.heap.get? a = some (scrO vs)) (e : s.heap.get? b = some o) (h1 : o ≠ noTab) (h2 : o ≠ scrO vs) : hp0 K ts a vs ns b = none := by
  cases q : hp0 K ts a vs ns b with
  | none => rfl
  | some u =>
    rcases hp0_is q with ⟨m, _⟩ | ⟨m, _, _⟩
    · exact absurd (Option.some.inj (e.symm.trans (hT b m))) h1
    · rw [m] at e
      exact absurd (Option.some.inj (e.symm.trans ha)) h2
theorem hp0_ok (hT : ∀ t ∈ ts, s.heap.get? t = some noTab) (ha : s.heap.get? a = some (scrO vs)) (hi : IntsAre vs ns) (hl : ns.length ≤ sizeLine) : HOk P w (hp0 K ts a vs ns) s.heap := by
  intro b u q
  rcases hp0_is q with ⟨m, rfl⟩ | ⟨rfl, _, rfl⟩
  · exact hT b m
  · exact ⟨ha, by rw [List.length_map]; exact hl, vs, _, vals_ints hi, ha⟩
end
theorem law_end {P : Program} {w : World} {K : PySem.W.Frag} {mg mb : Str → Option Value} {k : Nat} {fa a : Addr} {cs : List (Addr × Addr)} {sp : Sp} {s : Shared} {vs : List Value} {ns : List Int}
    (KX : K.In s.heap) (gG : s.heap.Ns mainGlobals mg) (gB : s.heap.Ns builtinsNs mb) (bB : ∀ x : Str, x ≠ "__name__" → mb x = bootBuiltins x) (lim : s.heap.NoLimit) (noG : s.gens = #[])
    (hT : ∀ p ∈ cs, s.heap.get? p.2 = some noTab) (nT : ∀ p ∈ cs, K.lookup p.2 = none) (hC : ∀ p ∈ cs, PySem.W.CodeHd s.heap p.1 p.2)
    (bM : ∃ (bm : Addr) (ob : Obj), mg "__builtins__" = some (.ref bm) ∧ bm ≠ builtinsNs ∧ s.heap.get? bm = some ob ∧ ob.cls = .type "module" ∧ ob.dict = some builtinsNs ∧ ob.data = .plain)
    (ha : s.heap.get? a = some (scrO vs)) (hi : IntsAre vs ns) (hl : ns.length ≤ sizeLine) (hr : Room k callerA)
    (F : ∀ base : Heap, K.In base → base.Ns mainGlobals mg → (∀ p ∈ cs, LamX.TabB base mg p.1 p.2) → FnGR P w K mg base k fa sp)
    (hsp : ∀ H : Hp, (∀ p ∈ cs, H p.2 = some (.tbl #[])) → SqL K H a (ns.map V.int) → sp [.ref a] H (fun v _ => v = .bl true) E0) :
    codeAny (model P w) callerA (.call (.ref fa) ⟨[.ref a], []⟩) (fun r s' => r = .ok (.ret (.bool true)) ∧ OldK s.heap s'.heap ∧ s'.os = s.os ∧ AllBare s'.gens) s := by
  obtain ⟨ts, ets⟩ : ∃ ts, ts = cs.map (·.2) := ⟨_, rfl⟩
  have mT : ∀ p ∈ cs, p.2 ∈ ts := fun p hp => by rw [ets]; exact List.mem_map_of_mem hp
  have isT : ∀ t ∈ ts, s.heap.get? t = some noTab := fun t ht => by
    rw [ets] at ht
    obtain ⟨p, hp, rfl⟩ := List.mem_map.mp ht
    exact hT p hp
  have aT : a ∉ ts := fun z => by
    have q := Option.some.inj ((isT a z).symm.trans ha)
    cases q
  obtain ⟨H, eH⟩ : ∃ H, H = hp0 K ts a vs ns := ⟨_, rfl⟩
  have off : ∀ {b : Addr} {o : Obj}, s.heap.get? b = some o → o ≠ noTab → o ≠ scrO vs → (hidT s.heap H).get? b = some o := fun e h1 h2 => hidT_get e (by rw [eH]; exact hp0_not isT ha e h1 h2)
  have offD : ∀ {b : Addr} {o : Obj} {es : Array DictEntry} {n : Nat}, s.heap.get? b = some o → o.data = .dict es n → (hidT s.heap H).get? b = some o := fun {b o es n} e d =>
    off e (fun z => by rw [z] at d; cases d) (fun z => by rw [z] at d; cases d)
  have ns_ : ∀ {b : Addr} {m : Str → Option Value}, s.heap.Ns b m → (hidT s.heap H).Ns b m := fun {b m} ⟨o, es, n, e, d, r⟩ => ⟨o, es, n, offD e d, d, r⟩
  have kIn : K.In (hidT s.heap H) := fun b o e => hidT_get (KX b o e) (by
    rw [eH]
    cases q : hp0 K ts a vs ns b with
    | none => rfl
    | some u =>
      rcases hp0_is q with ⟨m, _⟩ | ⟨m, n, _⟩
      · rw [ets] at m
        obtain ⟨p, hp, rfl⟩ := List.mem_map.mp m
        rw [nT p hp] at e
        cases e
      · rw [m, n] at e
        cases e)
  have mod : L2.Mod K mg (hidT s.heap H) := ⟨kIn, ns_ gG, ⟨mb, ns_ gB, bB⟩, lim.elim fun mc h => ⟨mc, ns_ h.1, h.2⟩⟩
  have hok : HOk P w H s.heap := by rw [eH]; exact hp0_ok isT ha hi hl
  have e0 : Env0 P w K mg (hidT s.heap H) callerA [] s H := ⟨rfl, mod, fun b o e => of_hidT e, Nat.le_of_eq (hidT_size _ _), trivial, (fun b hb => by cases hb), hok, .of_eq noG⟩
  have tb : ∀ p ∈ cs, LamX.TabB (hidT s.heap H) mg p.1 p.2 := fun p hp => by
    have hTp := hT p hp
    refine ⟨?_, ?_, fun z => ?_⟩
    · obtain ⟨o, us, file, tf, flags, tg, inF, text, tt, e1, r1, r2, r⟩ := hC p hp
      refine ⟨o, us, file, tf, flags, tg, inF, text, tt, off e1 (fun z => ?_) (fun z => ?_), r1, r2, r⟩
      · rw [z] at r2
        have r3 := r.1
        cases r2
        simp at r3
      · rw [z] at r2
        cases r2
    · obtain ⟨bm, ob, b1, b2, b3, b4, b5, b6⟩ := bM
      refine ⟨bm, ob, b1, b2, fun z => ?_, fun z => ?_, off b3 (fun z => ?_) (fun z => ?_), b4, b5, b6⟩
      · obtain ⟨o, es, n, e, d, _⟩ := gG
        rw [z] at b3
        have q := Option.some.inj (b3.symm.trans e)
        rw [q, d] at b6
        cases b6
      · rw [z] at b3
        have q := Option.some.inj (b3.symm.trans hTp)
        rw [q] at b6
        cases b6
      · rw [z] at b6
        cases b6
      · rw [z] at b6
        cases b6
    · obtain ⟨o, es, n, e, d, _⟩ := gG
      rw [z] at e
      have q := Option.some.inj (e.symm.trans hTp)
      rw [q] at d
      cases d
  have sq : SqL K H a (ns.map V.int) := by
    cases lk : K.lookup a with
    | none => exact .inl (.inr ⟨scrO vs, by rw [eH]; exact hp0_scr aT lk⟩)
    | some o =>
      have q := Option.some.inj ((KX a o lk).symm.trans ha)
      subst q
      exact .inr ⟨_, vs.toArray, _, lk, rfl, rfl, rfl, by rw [List.size_toArray, hi.length]; exact hl, by simpa using vals_ints hi⟩
  have hTab : ∀ p ∈ cs, H p.2 = some (.tbl #[]) := fun p hp => by rw [eH]; exact hp0_tab (mT p hp)
  refine codeAny_mono (F _ kIn (ns_ gG) tb callerA [] s H [.ref a] [.ref a] (fun v _ => v = .bl true) E0 rfl hr e0 (.cons rfl .nil) (hsp H hTab sq)) fun r s' hq => ?_
  cases r with
  | error e => exact False.elim hq
  | ok fl =>
    cases fl with
    | next => exact False.elim hq
    | brk => exact False.elim hq
    | cont => exact False.elim hq
    | ret x =>
      obtain ⟨v, H', os, bare, un, hok', rv, qv⟩ := hq
      have qv : v = .bl true := qv
      subst qv
      obtain rfl : x = Value.bool true := rv
      have same : ∀ b o, b ∉ ts → s.heap.get? b = some o → s'.heap.get? b = some o := fun b o nb e => by
        cases q : H b with
        | none => exact un.keep b o e q (fun z => by cases z) (fun z => by cases z)
        | some u =>
          rw [eH] at q
          rcases hp0_is q with ⟨m, _⟩ | ⟨rfl, _, rfl⟩
          · exact absurd m nb
          · rw [← eH] at q
            have z1 := (hok b _ q).1
            have z2 := (hok' b _ (un.frzs b _ _ q)).1
            rw [z2, ← z1]
            exact e
      have grown : ∀ p ∈ cs, ∃ more : Array Value, s'.heap.get? p.2 = some { cls := .none, data := .fields more } := fun p hp => by
        obtain ⟨more, z⟩ := un.tbls p.2 #[] (hTab p hp)
        exact ⟨_, hok' p.2 _ z⟩
      refine ⟨rfl, ⟨fun b o e => ?_, fun b o e => ?_⟩, os, bare⟩
      · by_cases hb : b ∈ ts
        · rw [ets] at hb
          obtain ⟨p, hp, rfl⟩ := List.mem_map.mp hb
          obtain ⟨more, hm⟩ := grown p hp
          have q := Option.some.inj (e.symm.trans (hT p hp))
          subst q
          exact .inr (.inl ⟨((hC p hp).tab (hT p hp)).isCodeTable, rfl, #[], more, rfl, by rw [Array.empty_append]; exact hm⟩)
        · exact .inl (same b o hb e)
      · by_cases hb : b ∈ ts
        · rw [ets] at hb
          obtain ⟨p, hp, rfl⟩ := List.mem_map.mp hb
          obtain ⟨more, hm⟩ := grown p hp
          exact ⟨_, hm⟩
        · exact ⟨o, same b o hb e⟩
end K75
-- part Y0
set_option Elab.async false
set_option linter.all false
set_option maxRecDepth 100000
set_option maxHeartbeats 4000000
namespace K75
open PySem PySem.Spec PyProof.Rows L2
/-- as law_end, and the script is told to be a list that nobody writes -/
theorem law_endX {P : Program} {w : World} {K : PySem.W.Frag} {mg mb : Str → Option Value} {k : Nat} {fa a : Addr} {cs : List (Addr × Addr)} {sp : Sp} {s : Shared} {vs : List Value} {ns : List Int}
    (KX : K.In s.heap) (gG : s.heap.Ns mainGlobals mg) (gB : s.heap.Ns builtinsNs mb) (bB : ∀ x : Str, x ≠ "__name__" → mb x = bootBuiltins x) (lim : s.heap.NoLimit) (noG : s.gens = #[])
    (hT : ∀ p ∈ cs, s.heap.get? p.2 = some noTab) (nT : ∀ p ∈ cs, K.lookup p.2 = none) (hC : ∀ p ∈ cs, PySem.W.CodeHd s.heap p.1 p.2)
    (bM : ∃ (bm : Addr) (ob : Obj), mg "__builtins__" = some (.ref bm) ∧ bm ≠ builtinsNs ∧ s.heap.get? bm = some ob ∧ ob.cls = .type "module" ∧ ob.dict = some builtinsNs ∧ ob.data = .plain)
    (ha : s.heap.get? a = some (scrO vs)) (hi : IntsAre vs ns) (hl : ns.length ≤ sizeLine) (hr : Room k callerA)
    (F : ∀ base : Heap, K.In base → base.Ns mainGlobals mg → (∀ p ∈ cs, LamX.TabB base mg p.1 p.2) → FnGR P w K mg base k fa sp)
    (hsp : ∀ H : Hp, (∀ p ∈ cs, H p.2 = some (.tbl #[])) → SqX K H a (ns.map V.int) → sp [.ref a] H (fun v _ => v = .bl true) E0) :
    codeAny (model P w) callerA (.call (.ref fa) ⟨[.ref a], []⟩) (fun r s' => r = .ok (.ret (.bool true)) ∧ OldK s.heap s'.heap ∧ s'.os = s.os ∧ AllBare s'.gens) s := by
  obtain ⟨ts, ets⟩ : ∃ ts, ts = cs.map (·.2) := ⟨_, rfl⟩
  have mT : ∀ p ∈ cs, p.2 ∈ ts := fun p hp => by rw [ets]; exact List.mem_map_of_mem hp
  have isT : ∀ t ∈ ts, s.heap.get? t = some noTab := fun t ht => by
    rw [ets] at ht
    obtain ⟨p, hp, rfl⟩ := List.mem_map.mp ht
    exact hT p hp
  have aT : a ∉ ts := fun z => by
    have q := Option.some.inj ((isT a z).symm.trans ha)
    cases q
  obtain ⟨H, eH⟩ : ∃ H, H = hp0 K ts a vs ns := ⟨_, rfl⟩
  have off : ∀ {b : Addr} {o : Obj}, s.heap.get? b = some o → o ≠ noTab → o ≠ scrO vs → (hidT s.heap H).get? b = some o := fun e h1 h2 => hidT_get e (by rw [eH]; exact hp0_not isT ha e h1 h2)
  have offD : ∀ {b : Addr} {o : Obj} {es : Array DictEntry} {n : Nat}, s.heap.get? b = some o → o.data = .dict es n → (hidT s.heap H).get? b = some o := fun {b o es n} e d =>
    off e (fun z => by rw [z] at d; cases d) (fun z => by rw [z] at d; cases d)
  have ns_ : ∀ {b : Addr} {m : Str → Option Value}, s.heap.Ns b m → (hidT s.heap H).Ns b m := fun {b m} ⟨o, es, n, e, d, r⟩ => ⟨o, es, n, offD e d, d, r⟩
  have kIn : K.In (hidT s.heap H) := fun b o e => hidT_get (KX b o e) (by
    rw [eH]
    cases q : hp0 K ts a vs ns b with
    | none => rfl
    | some u =>
      rcases hp0_is q with ⟨m, _⟩ | ⟨m, n, _⟩
      · rw [ets] at m
        obtain ⟨p, hp, rfl⟩ := List.mem_map.mp m
        rw [nT p hp] at e
        cases e
      · rw [m, n] at e
        cases e)
  have mod : L2.Mod K mg (hidT s.heap H) := ⟨kIn, ns_ gG, ⟨mb, ns_ gB, bB⟩, lim.elim fun mc h => ⟨mc, ns_ h.1, h.2⟩⟩
  have hok : HOk P w H s.heap := by rw [eH]; exact hp0_ok isT ha hi hl
  have e0 : Env0 P w K mg (hidT s.heap H) callerA [] s H := ⟨rfl, mod, fun b o e => of_hidT e, Nat.le_of_eq (hidT_size _ _), trivial, (fun b hb => by cases hb), hok, .of_eq noG⟩
  have tb : ∀ p ∈ cs, LamX.TabB (hidT s.heap H) mg p.1 p.2 := fun p hp => by
    have hTp := hT p hp
    refine ⟨?_, ?_, fun z => ?_⟩
    · obtain ⟨o, us, file, tf, flags, tg, inF, text, tt, e1, r1, r2, r⟩ := hC p hp
      refine ⟨o, us, file, tf, flags, tg, inF, text, tt, off e1 (fun z => ?_) (fun z => ?_), r1, r2, r⟩
      · rw [z] at r2
        have r3 := r.1
        cases r2
        simp at r3
      · rw [z] at r2
        cases r2
    · obtain ⟨bm, ob, b1, b2, b3, b4, b5, b6⟩ := bM
      refine ⟨bm, ob, b1, b2, fun z => ?_, fun z => ?_, off b3 (fun z => ?_) (fun z => ?_), b4, b5, b6⟩
      · obtain ⟨o, es, n, e, d, _⟩ := gG
        rw [z] at b3
        have q := Option.some.inj (b3.symm.trans e)
        rw [q, d] at b6
        cases b6
      · rw [z] at b3
        have q := Option.some.inj (b3.symm.trans hTp)
        rw [q] at b6
        cases b6
      · rw [z] at b6
        cases b6
      · rw [z] at b6
        cases b6
    · obtain ⟨o, es, n, e, d, _⟩ := gG
      rw [z] at e
      have q := Option.some.inj (e.symm.trans hTp)
      rw [q] at d
      cases d
  have sq : SqX K H a (ns.map V.int) := by
    cases lk : K.lookup a with
    | none => exact .inl ⟨scrO vs, by rw [eH]; exact hp0_scr aT lk⟩
    | some o =>
      have q := Option.some.inj ((KX a o lk).symm.trans ha)
      subst q
      exact .inr fun H' => .inr ⟨_, vs.toArray, _, lk, rfl, rfl, rfl, by rw [List.size_toArray, hi.length]; exact hl, by simpa using vals_ints hi⟩
  have hTab : ∀ p ∈ cs, H p.2 = some (.tbl #[]) := fun p hp => by rw [eH]; exact hp0_tab (mT p hp)
  refine codeAny_mono (F _ kIn (ns_ gG) tb callerA [] s H [.ref a] [.ref a] (fun v _ => v = .bl true) E0 rfl hr e0 (.cons rfl .nil) (hsp H hTab sq)) fun r s' hq => ?_
  cases r with
  | error e => exact False.elim hq
  | ok fl =>
    cases fl with
    | next => exact False.elim hq
    | brk => exact False.elim hq
    | cont => exact False.elim hq
    | ret x =>
      obtain ⟨v, H', os, bare, un, hok', rv, qv⟩ := hq
      have qv : v = .bl true := qv
      subst qv
      obtain rfl : x = Value.bool true := rv
      have same : ∀ b o, b ∉ ts → s.heap.get? b = some o → s'.heap.get? b = some o := fun b o nb e => by
        cases q : H b with
        | none => exact un.keep b o e q (fun z => by cases z) (fun z => by cases z)
        | some u =>
          rw [eH] at q
          rcases hp0_is q with ⟨m, _⟩ | ⟨rfl, _, rfl⟩
          · exact absurd m nb
          · rw [← eH] at q
            have z1 := (hok b _ q).1
            have z2 := (hok' b _ (un.frzs b _ _ q)).1
            rw [z2, ← z1]
            exact e
      have grown : ∀ p ∈ cs, ∃ more : Array Value, s'.heap.get? p.2 = some { cls := .none, data := .fields more } := fun p hp => by
        obtain ⟨more, z⟩ := un.tbls p.2 #[] (hTab p hp)
        exact ⟨_, hok' p.2 _ z⟩
      refine ⟨rfl, ⟨fun b o e => ?_, fun b o e => ?_⟩, os, bare⟩
      · by_cases hb : b ∈ ts
        · rw [ets] at hb
          obtain ⟨p, hp, rfl⟩ := List.mem_map.mp hb
          obtain ⟨more, hm⟩ := grown p hp
          have q := Option.some.inj (e.symm.trans (hT p hp))
          subst q
          exact .inr (.inl ⟨((hC p hp).tab (hT p hp)).isCodeTable, rfl, #[], more, rfl, by rw [Array.empty_append]; exact hm⟩)
        · exact .inl (same b o hb e)
      · by_cases hb : b ∈ ts
        · rw [ets] at hb
          obtain ⟨p, hp, rfl⟩ := List.mem_map.mp hb
          obtain ⟨more, hm⟩ := grown p hp
          exact ⟨_, hm⟩
        · exact ⟨o, same b o hb e⟩
end K75
-- part Y1
set_option Elab.async false
set_option linter.all false
set_option maxRecDepth 100000
set_option maxHeartbeats 4000000
namespace K75
open PySem PySem.Spec PyProof.Rows L2
/-! ### the head's facts: defs found by any road, Bool facts, tables left out -/
abbrev Fg := PySem.W.Frag
structure DZ where
  at_ : Fg → Addr
  name : Str
  qual : Str
  params : Arguments
  body : List Stmt
  scope : Scope
  kwd : List (Str × V) := []
def DZ.sees (K : Fg) (d : DZ) : He.FnW := match K.lookup (d.at_ K) with
  | some ⟨_, _, .func z, _⟩ => some (z.name, z.qualname, z.params, z.body, z.scope, z.globals, z.closure, z.builtins)
  | _ => none
def DZ.want (d : DZ) : He.FnW := some (d.name, d.qual, d.params, .stmts d.body, d.scope, mainGlobals, [], builtinsNs)
def DZ.ok (K : Fg) (d : DZ) : Bool := PySem.W.keepIn K (.ref (d.at_ K)) && (match K.lookup (d.at_ K) with
  | some ⟨_, _, .func z, _⟩ => PySem.W.codeIn K z.code d.qual && (He.dflB K z.defaults [] && He.kwdB K z.kwdefaults d.kwd)
  | _ => false)
theorem DZ.fun_ {K : Fg} {d : DZ} (e : d.sees K = d.want) (c : d.ok K = true) : ∃ fd, FunD K d.name d.qual d.params d.body d.scope [] d.kwd (d.at_ K) fd := by
  obtain ⟨kp, c1⟩ := He.ba c
  unfold DZ.sees at e
  cases q : K.lookup (d.at_ K) with
  | none =>
    rw [q] at c1
    cases c1
  | some o =>
    obtain ⟨oc, od, dt, osl⟩ := o
    rw [q] at c1 e
    cases dt with
    | func z =>
      obtain ⟨z1, z2, z3, z4, z5, z6, z7, z8, z9, z10, z11, z12, z13, z14, z15⟩ := z
      have e1 : (some (z1, z2, z3, z4, z5, z6, z7, z15) : He.FnW) = d.want := e
      unfold DZ.want at e1
      simp only [Option.some.injEq, Prod.mk.injEq] at e1
      obtain ⟨h1, h2, h3, h4, h5, h6, h7, h8⟩ := e1
      subst h1 h2 h3 h4 h5 h6 h7 h8
      obtain ⟨k1, k2⟩ := He.ba (show (PySem.W.codeIn K z13 d.qual && (He.dflB K z8 [] && He.kwdB K z9 d.kwd)) = true from c1)
      obtain ⟨k3, k4⟩ := He.ba k2
      exact ⟨_, ⟨oc, od, z8, z9, z10, z11, z12, z13, z14, osl, rfl, q, k1, He.dflB_ok k3, He.kwdB_ok k4⟩, kp⟩
    | _ => cases c1
/-! roads -/
def aG (x : Str) (K : Fg) : Addr := He.ga K x
def aM (x m : Str) (K : Fg) : Addr := He.ma K (He.ga K x) m
def recG (K : Fg) (p : Addr) (t : String) : Addr := match PySem.W.recIn K p t with
  | some (.ref g :: _) => g
  | _ => 0
def aP (x m : Str) (K : Fg) : Addr := recG K (He.ma K (He.ga K x) m) "property"
def aC (x m : Str) (K : Fg) : Addr := recG K (He.ma K (He.ga K x) m) "classmethod"
def recB (K : Fg) (p : Addr) (t : String) : Bool := match PySem.W.recIn K p t with
  | some (.ref _ :: _) => true
  | _ => false
theorem recB_ok {K : Fg} {p : Addr} {t : String} (h : recB K p t = true) : ∃ r, PySem.W.recIn K p t = some (.ref (recG K p t) :: r) := by
  unfold recB at h
  unfold recG
  split at h
  · rename_i g r e
    exact ⟨r, by rw [e]⟩
  · cases h
/-! Bool facts -/
def bP (x m : Str) (K : Fg) : Bool := He.eqO (PySem.W.findIn K (.ref (He.ga K x)) m) (some (some (.ref (aM x m K)))) && (He.eqO (PySem.W.specialIn K (.ref (aM x m K)) "__get__") (some (some (.builtin "property.__get__"))) && (decide (PySem.W.takesIn K (.ref (aM x m K)) = some true) && recB K (aM x m K) "property"))
theorem bP_ok {x m : Str} {K : Fg} (h : bP x m K = true) : PropOf K (He.ga K x) m (aM x m K) (aP x m K) := by
  obtain ⟨h1, h⟩ := He.ba h
  obtain ⟨h2, h⟩ := He.ba h
  obtain ⟨h3, h4⟩ := He.ba h
  exact ⟨He.eqO_ok h1, He.eqO_ok h2, of_decide_eq_true h3, recB_ok h4⟩
def mcOf (x : Str) (K : Fg) : Value := match PySem.W.typeIn K (.ref (He.ga K x)) with
  | some v => v
  | none => .none
def isGetC (x m : Str) (K : Fg) : Bool := match PySem.W.findCls K (.ref (He.ga K x)) (mcOf x K) m with
  | some (.get (.builtin u) (.ref p) .none (.ref c)) => decide (u = "classmethod.__get__") && (decide (p = aM x m K) && decide (c = He.ga K x))
  | _ => false
theorem isGetC_ok {x m : Str} {K : Fg} (h : isGetC x m K = true) : PySem.W.findCls K (.ref (He.ga K x)) (mcOf x K) m = some (.get (.builtin "classmethod.__get__") (.ref (aM x m K)) .none (.ref (He.ga K x))) := by
  unfold isGetC at h
  split at h
  · rename_i u p c e
    obtain ⟨h1, h⟩ := He.ba h
    obtain ⟨h2, h3⟩ := He.ba h
    rw [e, of_decide_eq_true h1, of_decide_eq_true h2, of_decide_eq_true h3]
  · cases h
def bC (x m : Str) (K : Fg) : Bool := PySem.W.readsIn K (He.ga K x) (mcOf x K) && (He.eqO (PySem.W.specialIn K (.ref (He.ga K x)) "__getattribute__") (some (some (.builtin "type.__getattribute__"))) && (isGetC x m K && (recB K (aM x m K) "classmethod" && PySem.W.fnIn K (aC x m K))))
theorem bC_ok {x m : Str} {K : Fg} (h : bC x m K = true) : ClX.CRead K (He.ga K x) (mcOf x K) ∧ ClX.CMet K (He.ga K x) (mcOf x K) m (aM x m K) (aC x m K) := by
  obtain ⟨h1, h⟩ := He.ba h
  obtain ⟨h2, h⟩ := He.ba h
  obtain ⟨h3, h⟩ := He.ba h
  obtain ⟨h4, h5⟩ := He.ba h
  exact ⟨⟨h1, He.eqO_ok h2⟩, ⟨isGetC_ok h3, recB_ok h4, h5⟩⟩
def bNe (x : Str) (K : Fg) : Bool := He.eqO (PySem.W.findIn K (.ref (He.ga K x)) "__ne__") (some (some (.builtin "object.__ne__"))) && decide (PySem.W.subIn K (.ref (He.ga K x)) (.type "object") = some true)
theorem bNe_ok {x : Str} {K : Fg} (h : bNe x K = true) : NeC K (He.ga K x) := by
  obtain ⟨h1, h2⟩ := He.ba h
  exact ⟨He.eqO_ok h1, of_decide_eq_true h2⟩
def bIs (x : Str) (K : Fg) : Bool := (He.Fa.cls x).ok K && (He.eqO (PySem.W.findIn K (.ref (He.ga K x)) "__class__") (some (some (.builtin "object.__class__"))) && (He.eqO (PySem.W.specialIn K (.builtin "object.__class__") "__get__") (some (some (.builtin "getset_descriptor.__get__"))) &&
  (decide (PySem.W.takesIn K (.builtin "object.__class__") = some true) && (decide (PySem.W.mroIn K (He.ga K x) (.type "object") = some true) && decide (PySem.W.kitOne K (.ref (He.ga K x)) (.ref (He.ga K x)) = some true)))))
theorem bIs_ok {x : Str} {K : Fg} (h : bIs x K = true) : C8.InsC K (He.ga K x) := by
  obtain ⟨h1, h⟩ := He.ba h
  obtain ⟨h2, h⟩ := He.ba h
  obtain ⟨h3, h⟩ := He.ba h
  obtain ⟨h4, h⟩ := He.ba h
  obtain ⟨h5, h6⟩ := He.ba h
  exact ⟨He.cls_ok h1, He.eqO_ok h2, He.eqO_ok h3, of_decide_eq_true h4, of_decide_eq_true h5, of_decide_eq_true h6⟩
def bSf (x : Str) (K : Fg) : Bool := PySem.W.selfFirst K (He.ga K x)
def bFn (x m : Str) (K : Fg) : Bool := PySem.W.fnIn K (aM x m K)
def bDi (x y : Str) (K : Fg) : Bool := !(He.ga K x == He.ga K y)
theorem bDi_ok {x y : Str} {K : Fg} (h : bDi x y K = true) : He.ga K x ≠ He.ga K y := fun e => by
  unfold bDi at h
  rw [e] at h
  simp at h
/-! tables -/
def codeA (K : Fg) (f : Addr) : Addr := match K.lookup f with
  | some ⟨_, _, .func z, _⟩ => (match z.code with
    | .ref c => c
    | _ => 0)
  | _ => 0
def tabA (K : Fg) (f : Fg → Addr) : Addr × Addr := (codeA K (f K), He.tabOf K (codeA K (f K)))
theorem codeA_of {K : Fg} {x qual : Str} {ps : Arguments} {bd : List Stmt} {sc : Scope} {dvs : List V} {kws : List (Str × V)} {f : Addr} {fd : FuncData} (F : FunD K x qual ps bd sc dvs kws f fd) : fd.code = .ref (codeA K f) := by
  obtain ⟨oc, od, dV, kV, doc, pm, an, cdv, ct, osl, e, lk, hcd, _, _⟩ := F.ex
  have hc : fd.code = cdv := by rw [e]
  obtain ⟨c, ec⟩ := He.codeIn_ref hcd
  unfold codeA
  rw [lk]
  show fd.code = .ref (match fd.code with | .ref c => c | _ => 0)
  rw [hc, ec]
/-! the Hook: K holds what stands at the ends of some roads -/
abbrev Gt := Addr → Option Obj
def rfV : Value → Addr
  | .ref a => a
  | _ => 0
/-- a name in a namespace -/
def nsR (g : Gt) (b : Addr) (x : Str) : Addr := match g b with
  | some ⟨_, _, .dict es _, _⟩ => (match es.toList.find? (fun e => match e.key with
    | .str y _ => decide (y = x)
    | _ => false) with
    | some e => rfV e.val
    | none => 0)
  | _ => 0
def rG (x : Str) (g : Gt) : Addr := nsR g mainGlobals x
def rNs (x : Str) (g : Gt) : Addr := match g (rG x g) with
  | some ⟨_, _, .cls cd, _⟩ => cd.ns
  | _ => 0
def rM (x m : Str) (g : Gt) : Addr := nsR g (rNs x g) m
/-- what a property or a classmethod holds -/
def rR (p : Gt → Addr) (g : Gt) : Addr := match g (p g) with
  | some ⟨_, _, .fields vs, _⟩ => rfV (vs.getD 0 .none)
  | _ => 0
def rCode (p : Gt → Addr) (g : Gt) : Addr := match g (p g) with
  | some ⟨_, _, .func z, _⟩ => rfV z.code
  | _ => 0
def rKw (p : Gt → Addr) (g : Gt) : Addr := match g (p g) with
  | some ⟨_, _, .func z, _⟩ => rfV z.kwdefaults
  | _ => 0
def frZ (rs : List (Gt → Addr)) (g : Gt) : Fg := He.frT g (rs.map fun r => r g)
def goA {α : Type} (g : Gt) : List (Gt → Addr) → (List Addr → α) → α
  | [], k => k []
  | r :: rs, k => HandSHeadRun.frNat (r g) fun a => goA g rs fun l => k (a :: l)
def goK {α : Type} (g : Gt) : List Addr → (Fg → α) → α
  | [], k => k []
  | a :: as, k => match g a with
    | some o => (match He.emptyTab o with
      | true => goK g as k
      | false => goK g as fun l => k ((a, o) :: l))
    | none => goK g as k
theorem goA_eq {α : Type} {g : Gt} : ∀ (rs : List (Gt → Addr)) (k : List Addr → α), goA g rs k = k (rs.map fun r => r g)
  | [], k => rfl
  | r :: rs, k => by
    show HandSHeadRun.frNat (r g) (fun a => goA g rs fun l => k (a :: l)) = _
    rw [HandSHeadRun.frNat_eq, goA_eq rs]
    rfl
theorem goK_eq {α : Type} {g : Gt} : ∀ (as : List Addr) (k : Fg → α), goK g as k = k (He.frT g as)
  | [], k => rfl
  | a :: as, k => by
    show (match g a with
      | some o => (match He.emptyTab o with
        | true => goK g as k
        | false => goK g as fun l => k ((a, o) :: l))
      | none => goK g as k) = _
    unfold He.frT He.frG
    rw [List.filterMap_cons]
    cases q : g a with
    | none =>
      rw [goK_eq as]
      rfl
    | some o =>
      show (match He.emptyTab o with
        | true => goK g as k
        | false => goK g as fun l => k ((a, o) :: l)) = k (((a, o) :: He.frG g as).filter fun q => !He.emptyTab q.2)
      rw [List.filter_cons]
      cases e : He.emptyTab o with
      | true =>
        rw [if_neg (by simp [e])]
        exact goK_eq as k
      | false =>
        rw [if_pos (by simp [e])]
        exact goK_eq as fun l => k ((a, o) :: l)
def tabsZ (g : Gt) (tf : List (Fg → Addr)) (K : Fg) : Bool := tf.all fun f => PySem.W.codeHdIn K (tabA K f).1 (tabA K f).2 && (match g (tabA K f).2 with
  | some o => He.emptyTab o
  | none => false)
abbrev AZ : Type := Bool × List He.FnW
def seeZ (fa : List He.Fa) (fb : List (Fg → Bool)) (fz : List DZ) (tf : List (Fg → Addr)) (g : Gt) (K : Fg) : AZ :=
  ((fa.all fun f => f.ok K) && ((fb.all fun f => f K) && ((fz.all fun d => d.ok K) && tabsZ g tf K)), fz.map fun d => d.sees K)
def wantZ (fz : List DZ) : AZ := (true, fz.map fun d => d.want)
def obsZ (rs : List (Gt → Addr)) (fa : List He.Fa) (fb : List (Fg → Bool)) (fz : List DZ) (tf : List (Fg → Addr)) (g : Gt) : AZ := goA g rs fun as => goK g as fun K => seeZ fa fb fz tf g K
theorem obsZ_see (rs : List (Gt → Addr)) (fa : List He.Fa) (fb : List (Fg → Bool)) (fz : List DZ) (tf : List (Fg → Addr)) (g : Gt) : obsZ rs fa fb fz tf g = seeZ fa fb fz tf g (frZ rs g) := by
  unfold obsZ
  rw [goA_eq, goK_eq]
  rfl
structure SaysZ (fa : List He.Fa) (fb : List (Fg → Bool)) (fz : List DZ) (tf : List (Fg → Addr)) (h : Heap) (K : Fg) : Prop where
  fa_ : ∀ f ∈ fa, f.ok K = true
  fb_ : ∀ f ∈ fb, f K = true
  fz_ : ∀ d ∈ fz, ∃ fd, FunD K d.name d.qual d.params d.body d.scope [] d.kwd (d.at_ K) fd
  hd : ∀ f ∈ tf, PySem.W.codeHdIn K (tabA K f).1 (tabA K f).2 = true
  out : ∀ f ∈ tf, K.lookup (tabA K f).2 = none
  empty : ∀ f ∈ tf, h.get? (tabA K f).2 = some { cls := .none, data := .fields #[] }
theorem map_eq_at {α β : Type} {f g : α → β} : ∀ {l : List α}, l.map f = l.map g → ∀ x ∈ l, f x = g x
  | [], _, x, h => by cases h
  | a :: l, e, x, h => by
    rw [List.map_cons, List.map_cons] at e
    injection e with e1 e2
    rcases List.mem_cons.mp h with rfl | h
    · exact e1
    · exact map_eq_at e2 x h
theorem saysZ_of {n : List (Gt → Addr)} {fa : List He.Fa} {fb : List (Fg → Bool)} {fz : List DZ} {tf : List (Fg → Addr)} {h : Heap} (e : obsZ n fa fb fz tf h.get? = wantZ fz) : SaysZ fa fb fz tf h (frZ n h.get?) := by
  rw [obsZ_see] at e
  have e1 : ((fa.all fun f => f.ok (frZ n h.get?)) && ((fb.all fun f => f (frZ n h.get?)) && ((fz.all fun d => d.ok (frZ n h.get?)) && tabsZ h.get? tf (frZ n h.get?)))) = true := congrArg (fun z : AZ => z.1) e
  have e2 : (fz.map fun d => d.sees (frZ n h.get?)) = fz.map fun d => d.want := congrArg (fun z : AZ => z.2) e
  obtain ⟨h1, h2⟩ := He.ba e1
  obtain ⟨h2, h3⟩ := He.ba h2
  obtain ⟨h3, h4⟩ := He.ba h3
  have tk : ∀ f ∈ tf, PySem.W.codeHdIn (frZ n h.get?) (tabA (frZ n h.get?) f).1 (tabA (frZ n h.get?) f).2 = true ∧ ∃ o, h.get? (tabA (frZ n h.get?) f).2 = some o ∧ He.emptyTab o = true := fun f hf => by
    obtain ⟨k1, k2⟩ := He.ba (List.all_eq_true.mp h4 f hf)
    refine ⟨k1, ?_⟩
    split at k2
    · rename_i o q
      exact ⟨o, q, k2⟩
    · cases k2
  refine ⟨List.all_eq_true.mp h1, List.all_eq_true.mp h2, fun d hd => DZ.fun_ (map_eq_at e2 d hd) (List.all_eq_true.mp h3 d hd), fun f hf => (tk f hf).1, fun f hf => ?_, fun f hf => ?_⟩
  · obtain ⟨o, q, z⟩ := (tk f hf).2
    exact He.frT_none q z
  · obtain ⟨o, q, z⟩ := (tk f hf).2
    rw [q, He.emptyTab_eq z]
def hookZ (n : List (Gt → Addr)) (fa : List He.Fa) (fb : List (Fg → Bool)) (fz : List DZ) (tf : List (Fg → Addr)) : PySem.W.Hook where
  α := AZ
  obs := fun s => obsZ n fa fb fz tf s.heap.get?
  val := fun _ => wantZ fz
  says := fun _ h => ∃ K : Fg, K.In h ∧ SaysZ fa fb fz tf h K
  of := fun _ _ e => ⟨_, He.frT_in, saysZ_of e⟩
  keeps := fun _ _ _ ⟨K, hK, c⟩ k => ⟨K, PySem.W.Frag.In.keeps hK k, ⟨c.fa_, c.fb_, c.fz_, c.hd, c.out, fun f hf => k _ _ (c.empty f hf)⟩⟩
theorem obsZ_eq {n : List (Gt → Addr)} {fa : List He.Fa} {fb : List (Fg → Bool)} {fz : List DZ} {tf : List (Fg → Addr)} {g : Addr → Option Obj} {s : Shared} (h : ∀ a, g a = s.heap.get? a) : obsZ n fa fb fz tf g = (hookZ n fa fb fz tf).obs s := by
  have e : g = s.heap.get? := funext h
  rw [e]
  rfl
section
variable {fa : List He.Fa} {fb : List (Fg → Bool)} {fz : List DZ} {tf : List (Fg → Addr)} {h : Heap} {K : Fg}
theorem SaysZ.a (c : SaysZ fa fb fz tf h K) (i : Nat) {f : He.Fa} (e : fa[i]? = some f := by rfl) : f.ok K = true := c.fa_ f (List.mem_of_getElem? e)
theorem SaysZ.b (c : SaysZ fa fb fz tf h K) (i : Nat) {f : Fg → Bool} (e : fb[i]? = some f := by rfl) : f K = true := c.fb_ f (List.mem_of_getElem? e)
theorem SaysZ.z (c : SaysZ fa fb fz tf h K) (i : Nat) {d : DZ} (e : fz[i]? = some d := by rfl) : ∃ fd, FunD K d.name d.qual d.params d.body d.scope [] d.kwd (d.at_ K) fd := c.fz_ d (List.mem_of_getElem? e)
end
end K75
-- part Y2
set_option Elab.async false
set_option linter.all false
set_option maxRecDepth 100000
set_option maxHeartbeats 4000000
namespace K75
open PySem PySem.Spec PyProof.Rows L2
/-! the head's data -/
def bTn (K : Fg) : Bool := !((tabA K (aG "_law_plan")).2 == (tabA K (aG "law")).2)
theorem bTn_ok {K : Fg} (h : bTn K = true) : (tabA K (aG "_law_plan")).2 ≠ (tabA K (aG "law")).2 := fun e => by
  unfold bTn at h
  rw [e] at h
  simp at h
def fa84_0 : List (He.Fa) := [.free "int", .free "len", .free "abs", .free "max", .free "min", .free "sum", .free "all", .free "list", .free "tuple", .free "dict", .free "sorted", .free "range", .free "isinstance", .free "bool", .free "str", .free "zip", .int "TEXT_SIGNS" 8000, .int "PIECE_SIGNS" 5, .int "MAX_SIGNS" 8000, .int "MAX_PIECES" 12, .int "MAX_ALPHABET" 4, .int "MAX_PRICE" 99, .int "MAX_VIEW" 2000, .int "MAX_WINDOWS" 2000, .int "MAX_TEXTS" 50, .int "MAX_NAME" 8, .glo "is_integer", .glo "is_integer_within", .glo "is_word", .glo "is_text"]
def fa84_1 : List (He.Fa) := [.glo "is_piece", .glo "is_price", .glo "are_prices", .glo "is_text_over", .glo "require_book", .glo "require_text", .glo "prices_along", .glo "cheapest_price_in", .glo "is_order", .glo "is_view", .glo "is_table", .glo "require_cutter", .glo "shared_start", .glo "cuts_compared", .glo "recut", .glo "is_name", .glo "require_call", .glo "require_many", .glo "_law_reel", .glo "_law_spin", .glo "_law_pick", .glo "_law_some", .glo "_law_text", .glo "_law_signs", .glo "_law_prices", .glo "_law_plan", .glo "_law_cutter", .glo "_law_tell", .glo "_law_cut", .glo "_law_price"]
def fa84_2 : List (He.Fa) := [.glo "_law_alphabet", .glo "_law_name", .glo "_law_shelf_plan", .glo "_law_span", .glo "_law_walk", .glo "_law_back_and_forth", .glo "_law_others_right", .glo "law", .glo "Book", .cls "Book", .noat "Book" "own_prices", .noat "Book" "own_pieces", .noat "Book" "own_alphabet", .noat "Book" "own_longest", .noat "Book" "own_dearest", .meth "Book" "accepts", .glo "Cutter", .cls "Cutter", .noat "Cutter" "own_book", .noat "Cutter" "own_order", .noat "Cutter" "own_view", .noat "Cutter" "own_table", .noat "Cutter" "own_ends", .noat "Cutter" "own_sizes", .meth "Cutter" "told_by", .meth "Cutter" "cut_in", .meth "Cutter" "price_in", .meth "Cutter" "cut", .meth "Cutter" "behind", .glo "Shelf"]
def fa84_3 : List (He.Fa) := [.cls "Shelf", .noat "Shelf" "own_cutter", .noat "Shelf" "own_texts", .noat "Shelf" "own_sums", .noat "Shelf" "own_done", .noat "Shelf" "own_undone", .noat "Shelf" "own_block", .noat "Shelf" "own_entry", .noat "Shelf" "own_watchers", .meth "Shelf" "require_near", .meth "Shelf" "most_behind", .meth "Shelf" "require_known", .meth "Shelf" "require_no_block", .meth "Shelf" "weigh", .meth "Shelf" "move", .meth "Shelf" "change", .meth "Shelf" "put", .meth "Shelf" "drop", .meth "Shelf" "edit", .meth "Shelf" "watch", .meth "Shelf" "undo", .meth "Shelf" "redo", .mkr "Book", .mkr "Cutter", .mkr "Shelf", .meth "Book" "__eq__", .meth "Cutter" "__eq__", .meth "Shelf" "__eq__", .meth "Shelf" "__len__", .meth "Shelf" "__str__"]
def fa84 : List (He.Fa) := fa84_0 ++ fa84_1 ++ fa84_2 ++ fa84_3
def fb84_0 : List (Fg → Bool) := [bDi "Book" "Cutter", bDi "Book" "Shelf", bDi "Cutter" "Shelf", bNe "Book", bIs "Book", bNe "Cutter", bIs "Cutter", bNe "Shelf", bIs "Shelf", bTn, bP "Shelf" "names", bP "Shelf" "texts", bP "Shelf" "total", bP "Shelf" "lag"]
def fb84 : List (Fg → Bool) := fb84_0
def fz84_0 : List (DZ) := [⟨aG "is_integer", "is_integer", "is_integer", defArgs s_p_is_integer, defBody s_p_is_integer, defScope s_p_is_integer, []⟩, ⟨aG "is_integer_within", "is_integer_within", "is_integer_within", defArgs s_p_is_integer_within, defBody s_p_is_integer_within, defScope s_p_is_integer_within, []⟩, ⟨aG "is_word", "is_word", "is_word", defArgs s_p_is_word, defBody s_p_is_word, defScope s_p_is_word, []⟩, ⟨aG "is_text", "is_text", "is_text", defArgs s_p_is_text, defBody s_p_is_text, defScope s_p_is_text, []⟩, ⟨aG "is_piece", "is_piece", "is_piece", defArgs s_p_is_piece, defBody s_p_is_piece, defScope s_p_is_piece, []⟩, ⟨aG "is_price", "is_price", "is_price", defArgs s_p_is_price, defBody s_p_is_price, defScope s_p_is_price, []⟩, ⟨aG "are_prices", "are_prices", "are_prices", defArgs s_p_are_prices, defBody s_p_are_prices, defScope s_p_are_prices, []⟩, ⟨aG "is_text_over", "is_text_over", "is_text_over", defArgs s_p_is_text_over, defBody s_p_is_text_over, defScope s_p_is_text_over, []⟩, ⟨aG "require_book", "require_book", "require_book", defArgs s_p_require_book, defBody s_p_require_book, defScope s_p_require_book, []⟩, ⟨aG "require_text", "require_text", "require_text", defArgs s_p_require_text, defBody s_p_require_text, defScope s_p_require_text, []⟩, ⟨aG "prices_along", "prices_along", "prices_along", defArgs s_p_prices_along, defBody s_p_prices_along, defScope s_p_prices_along, []⟩, ⟨aG "cheapest_price_in", "cheapest_price_in", "cheapest_price_in", defArgs s_p_cheapest_price_in, defBody s_p_cheapest_price_in, defScope s_p_cheapest_price_in, []⟩, ⟨aG "is_order", "is_order", "is_order", defArgs s_p_is_order, defBody s_p_is_order, defScope s_p_is_order, []⟩, ⟨aG "is_view", "is_view", "is_view", defArgs s_p_is_view, defBody s_p_is_view, defScope s_p_is_view, []⟩, ⟨aG "is_table", "is_table", "is_table", defArgs s_p_is_table, defBody s_p_is_table, defScope s_p_is_table, []⟩, ⟨aG "require_cutter", "require_cutter", "require_cutter", defArgs s_p_require_cutter, defBody s_p_require_cutter, defScope s_p_require_cutter, []⟩, ⟨aG "shared_start", "shared_start", "shared_start", defArgs s_p_shared_start, defBody s_p_shared_start, defScope s_p_shared_start, []⟩, ⟨aG "cuts_compared", "cuts_compared", "cuts_compared", defArgs s_p_cuts_compared, defBody s_p_cuts_compared, defScope s_p_cuts_compared, []⟩, ⟨aG "recut", "recut", "recut", defArgs s_p_recut, defBody s_p_recut, defScope s_p_recut, []⟩, ⟨aG "is_name", "is_name", "is_name", defArgs s_p_is_name, defBody s_p_is_name, defScope s_p_is_name, []⟩]
def fz84_1 : List (DZ) := [⟨aG "require_call", "require_call", "require_call", defArgs s_p_require_call, defBody s_p_require_call, defScope s_p_require_call, []⟩, ⟨aG "require_many", "require_many", "require_many", defArgs s_p_require_many, defBody s_p_require_many, defScope s_p_require_many, []⟩, ⟨aG "_law_reel", "_law_reel", "_law_reel", defArgs s_reel, defBody s_reel, defScope s_reel, []⟩, ⟨aG "_law_spin", "_law_spin", "_law_spin", defArgs s_spin, defBody s_spin, defScope s_spin, []⟩, ⟨aG "_law_pick", "_law_pick", "_law_pick", defArgs s_pick, defBody s_pick, defScope s_pick, []⟩, ⟨aG "_law_some", "_law_some", "_law_some", defArgs s_some, defBody s_some, defScope s_some, []⟩, ⟨aG "_law_text", "_law_text", "_law_text", defArgs s_text, defBody s_text, defScope s_text, []⟩, ⟨aG "_law_signs", "_law_signs", "_law_signs", defArgs s_signs, defBody s_signs, defScope s_signs, []⟩, ⟨aG "_law_prices", "_law_prices", "_law_prices", defArgs s_prices, defBody s_prices, defScope s_prices, []⟩, ⟨aG "_law_plan", "_law_plan", "_law_plan", defArgs s_plan, defBody s_plan, defScope s_plan, []⟩, ⟨aG "_law_cutter", "_law_cutter", "_law_cutter", defArgs s_cutter, defBody s_cutter, defScope s_cutter, []⟩, ⟨aG "_law_tell", "_law_tell", "_law_tell", defArgs s_tell, defBody s_tell, defScope s_tell, []⟩, ⟨aG "_law_cut", "_law_cut", "_law_cut", defArgs s_cut, defBody s_cut, defScope s_cut, []⟩, ⟨aG "_law_price", "_law_price", "_law_price", defArgs s_price, defBody s_price, defScope s_price, []⟩, ⟨aG "_law_alphabet", "_law_alphabet", "_law_alphabet", defArgs s_alphabet, defBody s_alphabet, defScope s_alphabet, []⟩, ⟨aG "_law_name", "_law_name", "_law_name", defArgs s_name, defBody s_name, defScope s_name, []⟩, ⟨aG "_law_shelf_plan", "_law_shelf_plan", "_law_shelf_plan", defArgs s_shelf_plan, defBody s_shelf_plan, defScope s_shelf_plan, []⟩, ⟨aG "_law_span", "_law_span", "_law_span", defArgs s_span, defBody s_span, defScope s_span, []⟩, ⟨aG "_law_walk", "_law_walk", "_law_walk", defArgs s_walk, defBody s_walk, defScope s_walk, []⟩, ⟨aG "_law_back_and_forth", "_law_back_and_forth", "_law_back_and_forth", defArgs s_back_and_forth, defBody s_back_and_forth, defScope s_back_and_forth, []⟩]
def fz84_2 : List (DZ) := [⟨aG "_law_others_right", "_law_others_right", "_law_others_right", defArgs s_others_right, defBody s_others_right, defScope s_others_right, []⟩, ⟨aG "law", "law", "law", defArgs s_law, defBody s_law, defScope s_law, []⟩, ⟨aM "Book" "accepts", "accepts", "Book.accepts", defArgs s_p_Book_accepts, defBody s_p_Book_accepts, defScope s_p_Book_accepts, []⟩, ⟨aM "Cutter" "told_by", "told_by", "Cutter.told_by", defArgs s_p_Cutter_told_by, defBody s_p_Cutter_told_by, defScope s_p_Cutter_told_by, []⟩, ⟨aM "Cutter" "cut_in", "cut_in", "Cutter.cut_in", defArgs s_p_Cutter_cut_in, defBody s_p_Cutter_cut_in, defScope s_p_Cutter_cut_in, []⟩, ⟨aM "Cutter" "price_in", "price_in", "Cutter.price_in", defArgs s_p_Cutter_price_in, defBody s_p_Cutter_price_in, defScope s_p_Cutter_price_in, []⟩, ⟨aM "Cutter" "cut", "cut", "Cutter.cut", defArgs s_p_Cutter_cut, defBody s_p_Cutter_cut, defScope s_p_Cutter_cut, []⟩, ⟨aM "Cutter" "behind", "behind", "Cutter.behind", defArgs s_p_Cutter_behind, defBody s_p_Cutter_behind, defScope s_p_Cutter_behind, []⟩, ⟨aM "Shelf" "require_near", "require_near", "Shelf.require_near", defArgs s_p_Shelf_require_near, defBody s_p_Shelf_require_near, defScope s_p_Shelf_require_near, []⟩, ⟨aM "Shelf" "most_behind", "most_behind", "Shelf.most_behind", defArgs s_p_Shelf_most_behind, defBody s_p_Shelf_most_behind, defScope s_p_Shelf_most_behind, []⟩, ⟨aM "Shelf" "require_known", "require_known", "Shelf.require_known", defArgs s_p_Shelf_require_known, defBody s_p_Shelf_require_known, defScope s_p_Shelf_require_known, []⟩, ⟨aM "Shelf" "require_no_block", "require_no_block", "Shelf.require_no_block", defArgs s_p_Shelf_require_no_block, defBody s_p_Shelf_require_no_block, defScope s_p_Shelf_require_no_block, []⟩, ⟨aM "Shelf" "weigh", "weigh", "Shelf.weigh", defArgs s_p_Shelf_weigh, defBody s_p_Shelf_weigh, defScope s_p_Shelf_weigh, []⟩, ⟨aM "Shelf" "move", "move", "Shelf.move", defArgs s_p_Shelf_move, defBody s_p_Shelf_move, defScope s_p_Shelf_move, []⟩, ⟨aM "Shelf" "change", "change", "Shelf.change", defArgs s_p_Shelf_change, defBody s_p_Shelf_change, defScope s_p_Shelf_change, []⟩, ⟨aM "Shelf" "put", "put", "Shelf.put", defArgs s_p_Shelf_put, defBody s_p_Shelf_put, defScope s_p_Shelf_put, []⟩, ⟨aM "Shelf" "drop", "drop", "Shelf.drop", defArgs s_p_Shelf_drop, defBody s_p_Shelf_drop, defScope s_p_Shelf_drop, []⟩, ⟨aM "Shelf" "edit", "edit", "Shelf.edit", defArgs s_p_Shelf_edit, defBody s_p_Shelf_edit, defScope s_p_Shelf_edit, []⟩, ⟨aM "Shelf" "watch", "watch", "Shelf.watch", defArgs s_p_Shelf_watch, defBody s_p_Shelf_watch, defScope s_p_Shelf_watch, []⟩, ⟨aM "Shelf" "undo", "undo", "Shelf.undo", defArgs s_p_Shelf_undo, defBody s_p_Shelf_undo, defScope s_p_Shelf_undo, [("many", .int 1)]⟩]
def fz84_3 : List (DZ) := [⟨aM "Shelf" "redo", "redo", "Shelf.redo", defArgs s_p_Shelf_redo, defBody s_p_Shelf_redo, defScope s_p_Shelf_redo, [("many", .int 1)]⟩, ⟨aM "Book" "__init__", "__init__", "Book.__init__", defArgs s_p_Book___init__, defBody s_p_Book___init__, defScope s_p_Book___init__, []⟩, ⟨aM "Cutter" "__init__", "__init__", "Cutter.__init__", defArgs s_p_Cutter___init__, defBody s_p_Cutter___init__, defScope s_p_Cutter___init__, [("view", .non), ("table", .non), ("ends", .non)]⟩, ⟨aM "Shelf" "__init__", "__init__", "Shelf.__init__", defArgs s_p_Shelf___init__, defBody s_p_Shelf___init__, defScope s_p_Shelf___init__, [("texts", .non)]⟩, ⟨aM "Book" "__eq__", "__eq__", "Book.__eq__", defArgs s_p_Book___eq__, defBody s_p_Book___eq__, defScope s_p_Book___eq__, []⟩, ⟨aM "Cutter" "__eq__", "__eq__", "Cutter.__eq__", defArgs s_p_Cutter___eq__, defBody s_p_Cutter___eq__, defScope s_p_Cutter___eq__, []⟩, ⟨aM "Shelf" "__eq__", "__eq__", "Shelf.__eq__", defArgs s_p_Shelf___eq__, defBody s_p_Shelf___eq__, defScope s_p_Shelf___eq__, []⟩, ⟨aM "Shelf" "__len__", "__len__", "Shelf.__len__", defArgs s_p_Shelf___len__, defBody s_p_Shelf___len__, defScope s_p_Shelf___len__, []⟩, ⟨aM "Shelf" "__str__", "__str__", "Shelf.__str__", defArgs s_p_Shelf___str__, defBody s_p_Shelf___str__, defScope s_p_Shelf___str__, []⟩, ⟨aP "Shelf" "names", "names", "Shelf.names", defArgs s_p_Shelf_names, defBody s_p_Shelf_names, defScope s_p_Shelf_names, []⟩, ⟨aP "Shelf" "texts", "texts", "Shelf.texts", defArgs s_p_Shelf_texts, defBody s_p_Shelf_texts, defScope s_p_Shelf_texts, []⟩, ⟨aP "Shelf" "total", "total", "Shelf.total", defArgs s_p_Shelf_total, defBody s_p_Shelf_total, defScope s_p_Shelf_total, []⟩, ⟨aP "Shelf" "lag", "lag", "Shelf.lag", defArgs s_p_Shelf_lag, defBody s_p_Shelf_lag, defScope s_p_Shelf_lag, []⟩]
def fz84 : List (DZ) := fz84_0 ++ fz84_1 ++ fz84_2 ++ fz84_3
def rs84_0 : List (Gt → Addr) := [fun _ => mainGlobals, fun _ => cStatics, rG "Book", rNs "Book", rG "Cutter", rNs "Cutter", rG "Shelf", rNs "Shelf", rG "is_integer", rCode (rG "is_integer"), rG "is_integer_within", rCode (rG "is_integer_within"), rG "is_word", rCode (rG "is_word"), rG "is_text", rCode (rG "is_text"), rG "is_piece", rCode (rG "is_piece"), rG "is_price", rCode (rG "is_price"), rG "are_prices", rCode (rG "are_prices"), rG "is_text_over", rCode (rG "is_text_over"), rG "require_book", rCode (rG "require_book"), rG "require_text", rCode (rG "require_text"), rG "prices_along", rCode (rG "prices_along")]
def rs84_1 : List (Gt → Addr) := [rG "cheapest_price_in", rCode (rG "cheapest_price_in"), rG "is_order", rCode (rG "is_order"), rG "is_view", rCode (rG "is_view"), rG "is_table", rCode (rG "is_table"), rG "require_cutter", rCode (rG "require_cutter"), rG "shared_start", rCode (rG "shared_start"), rG "cuts_compared", rCode (rG "cuts_compared"), rG "recut", rCode (rG "recut"), rG "is_name", rCode (rG "is_name"), rG "require_call", rCode (rG "require_call"), rG "require_many", rCode (rG "require_many"), rG "_law_reel", rCode (rG "_law_reel"), rG "_law_spin", rCode (rG "_law_spin"), rG "_law_pick", rCode (rG "_law_pick"), rG "_law_some", rCode (rG "_law_some")]
def rs84_2 : List (Gt → Addr) := [rG "_law_text", rCode (rG "_law_text"), rG "_law_signs", rCode (rG "_law_signs"), rG "_law_prices", rCode (rG "_law_prices"), rG "_law_plan", rCode (rG "_law_plan"), rG "_law_cutter", rCode (rG "_law_cutter"), rG "_law_tell", rCode (rG "_law_tell"), rG "_law_cut", rCode (rG "_law_cut"), rG "_law_price", rCode (rG "_law_price"), rG "_law_alphabet", rCode (rG "_law_alphabet"), rG "_law_name", rCode (rG "_law_name"), rG "_law_shelf_plan", rCode (rG "_law_shelf_plan"), rG "_law_span", rCode (rG "_law_span"), rG "_law_walk", rCode (rG "_law_walk"), rG "_law_back_and_forth", rCode (rG "_law_back_and_forth"), rG "_law_others_right", rCode (rG "_law_others_right")]
def rs84_3 : List (Gt → Addr) := [rG "law", rCode (rG "law"), rM "Book" "accepts", rCode (rM "Book" "accepts"), rM "Cutter" "told_by", rCode (rM "Cutter" "told_by"), rM "Cutter" "cut_in", rCode (rM "Cutter" "cut_in"), rM "Cutter" "price_in", rCode (rM "Cutter" "price_in"), rM "Cutter" "cut", rCode (rM "Cutter" "cut"), rM "Cutter" "behind", rCode (rM "Cutter" "behind"), rM "Shelf" "require_near", rCode (rM "Shelf" "require_near"), rM "Shelf" "most_behind", rCode (rM "Shelf" "most_behind"), rM "Shelf" "require_known", rCode (rM "Shelf" "require_known"), rM "Shelf" "require_no_block", rCode (rM "Shelf" "require_no_block"), rM "Shelf" "weigh", rCode (rM "Shelf" "weigh"), rM "Shelf" "move", rCode (rM "Shelf" "move"), rM "Shelf" "change", rCode (rM "Shelf" "change"), rM "Shelf" "put", rCode (rM "Shelf" "put")]
def rs84_4 : List (Gt → Addr) := [rM "Shelf" "drop", rCode (rM "Shelf" "drop"), rM "Shelf" "edit", rCode (rM "Shelf" "edit"), rM "Shelf" "watch", rCode (rM "Shelf" "watch"), rM "Shelf" "undo", rCode (rM "Shelf" "undo"), rKw (rM "Shelf" "undo"), rM "Shelf" "redo", rCode (rM "Shelf" "redo"), rKw (rM "Shelf" "redo"), rM "Book" "__init__", rCode (rM "Book" "__init__"), rM "Cutter" "__init__", rCode (rM "Cutter" "__init__"), rKw (rM "Cutter" "__init__"), rM "Shelf" "__init__", rCode (rM "Shelf" "__init__"), rKw (rM "Shelf" "__init__"), rM "Book" "__eq__", rCode (rM "Book" "__eq__"), rM "Cutter" "__eq__", rCode (rM "Cutter" "__eq__"), rM "Shelf" "__eq__", rCode (rM "Shelf" "__eq__"), rM "Shelf" "__len__", rCode (rM "Shelf" "__len__"), rM "Shelf" "__str__", rCode (rM "Shelf" "__str__")]
def rs84_5 : List (Gt → Addr) := [rM "Shelf" "names", rR (rM "Shelf" "names"), rCode (rR (rM "Shelf" "names")), rM "Shelf" "texts", rR (rM "Shelf" "texts"), rCode (rR (rM "Shelf" "texts")), rM "Shelf" "total", rR (rM "Shelf" "total"), rCode (rR (rM "Shelf" "total")), rM "Shelf" "lag", rR (rM "Shelf" "lag"), rCode (rR (rM "Shelf" "lag"))]
def rs84 : List (Gt → Addr) := rs84_0 ++ rs84_1 ++ rs84_2 ++ rs84_3 ++ rs84_4 ++ rs84_5
def tf84 : List (Fg → Addr) := [aG "_law_plan", aG "law"]
theorem ty_of {K : Fg} {h : Heap} {mg : Str → Option Value} (X : K.In h) (G : h.Ns mainGlobals mg) (c : SaysZ fa84 fb84 fz84 tf84 h K) : Ty K mg (He.ga K "Book") (He.ga K "Cutter") (He.ga K "Shelf") where
  n_int := He.free_ok X G (c.a 0)
  n_len := He.free_ok X G (c.a 1)
  n_abs := He.free_ok X G (c.a 2)
  n_max := He.free_ok X G (c.a 3)
  n_min := He.free_ok X G (c.a 4)
  n_sum := He.free_ok X G (c.a 5)
  n_all := He.free_ok X G (c.a 6)
  n_list := He.free_ok X G (c.a 7)
  n_tuple := He.free_ok X G (c.a 8)
  n_dict := He.free_ok X G (c.a 9)
  n_sorted := He.free_ok X G (c.a 10)
  n_range := He.free_ok X G (c.a 11)
  n_isinstance := He.free_ok X G (c.a 12)
  n_bool := He.free_ok X G (c.a 13)
  n_str := He.free_ok X G (c.a 14)
  n_zip := He.free_ok X G (c.a 15)
  g_TEXT_SIGNS := He.int_ok X G (c.a 16)
  g_PIECE_SIGNS := He.int_ok X G (c.a 17)
  g_MAX_SIGNS := He.int_ok X G (c.a 18)
  g_MAX_PIECES := He.int_ok X G (c.a 19)
  g_MAX_ALPHABET := He.int_ok X G (c.a 20)
  g_MAX_PRICE := He.int_ok X G (c.a 21)
  g_MAX_VIEW := He.int_ok X G (c.a 22)
  g_MAX_WINDOWS := He.int_ok X G (c.a 23)
  g_MAX_TEXTS := He.int_ok X G (c.a 24)
  g_MAX_NAME := He.int_ok X G (c.a 25)
  d_p_is_integer := (c.z 0 (d := ⟨aG "is_integer", "is_integer", "is_integer", defArgs s_p_is_integer, defBody s_p_is_integer, defScope s_p_is_integer, []⟩)).elim fun fd F => ⟨_, fd, F, He.glo_ok X G (c.a 26)⟩
  d_p_is_integer_within := (c.z 1 (d := ⟨aG "is_integer_within", "is_integer_within", "is_integer_within", defArgs s_p_is_integer_within, defBody s_p_is_integer_within, defScope s_p_is_integer_within, []⟩)).elim fun fd F => ⟨_, fd, F, He.glo_ok X G (c.a 27)⟩
  d_p_is_word := (c.z 2 (d := ⟨aG "is_word", "is_word", "is_word", defArgs s_p_is_word, defBody s_p_is_word, defScope s_p_is_word, []⟩)).elim fun fd F => ⟨_, fd, F, He.glo_ok X G (c.a 28)⟩
  d_p_is_text := (c.z 3 (d := ⟨aG "is_text", "is_text", "is_text", defArgs s_p_is_text, defBody s_p_is_text, defScope s_p_is_text, []⟩)).elim fun fd F => ⟨_, fd, F, He.glo_ok X G (c.a 29)⟩
  d_p_is_piece := (c.z 4 (d := ⟨aG "is_piece", "is_piece", "is_piece", defArgs s_p_is_piece, defBody s_p_is_piece, defScope s_p_is_piece, []⟩)).elim fun fd F => ⟨_, fd, F, He.glo_ok X G (c.a 30)⟩
  d_p_is_price := (c.z 5 (d := ⟨aG "is_price", "is_price", "is_price", defArgs s_p_is_price, defBody s_p_is_price, defScope s_p_is_price, []⟩)).elim fun fd F => ⟨_, fd, F, He.glo_ok X G (c.a 31)⟩
  d_p_are_prices := (c.z 6 (d := ⟨aG "are_prices", "are_prices", "are_prices", defArgs s_p_are_prices, defBody s_p_are_prices, defScope s_p_are_prices, []⟩)).elim fun fd F => ⟨_, fd, F, He.glo_ok X G (c.a 32)⟩
  d_p_is_text_over := (c.z 7 (d := ⟨aG "is_text_over", "is_text_over", "is_text_over", defArgs s_p_is_text_over, defBody s_p_is_text_over, defScope s_p_is_text_over, []⟩)).elim fun fd F => ⟨_, fd, F, He.glo_ok X G (c.a 33)⟩
  d_p_require_book := (c.z 8 (d := ⟨aG "require_book", "require_book", "require_book", defArgs s_p_require_book, defBody s_p_require_book, defScope s_p_require_book, []⟩)).elim fun fd F => ⟨_, fd, F, He.glo_ok X G (c.a 34)⟩
  d_p_require_text := (c.z 9 (d := ⟨aG "require_text", "require_text", "require_text", defArgs s_p_require_text, defBody s_p_require_text, defScope s_p_require_text, []⟩)).elim fun fd F => ⟨_, fd, F, He.glo_ok X G (c.a 35)⟩
  d_p_prices_along := (c.z 10 (d := ⟨aG "prices_along", "prices_along", "prices_along", defArgs s_p_prices_along, defBody s_p_prices_along, defScope s_p_prices_along, []⟩)).elim fun fd F => ⟨_, fd, F, He.glo_ok X G (c.a 36)⟩
  d_p_cheapest_price_in := (c.z 11 (d := ⟨aG "cheapest_price_in", "cheapest_price_in", "cheapest_price_in", defArgs s_p_cheapest_price_in, defBody s_p_cheapest_price_in, defScope s_p_cheapest_price_in, []⟩)).elim fun fd F => ⟨_, fd, F, He.glo_ok X G (c.a 37)⟩
  d_p_is_order := (c.z 12 (d := ⟨aG "is_order", "is_order", "is_order", defArgs s_p_is_order, defBody s_p_is_order, defScope s_p_is_order, []⟩)).elim fun fd F => ⟨_, fd, F, He.glo_ok X G (c.a 38)⟩
  d_p_is_view := (c.z 13 (d := ⟨aG "is_view", "is_view", "is_view", defArgs s_p_is_view, defBody s_p_is_view, defScope s_p_is_view, []⟩)).elim fun fd F => ⟨_, fd, F, He.glo_ok X G (c.a 39)⟩
  d_p_is_table := (c.z 14 (d := ⟨aG "is_table", "is_table", "is_table", defArgs s_p_is_table, defBody s_p_is_table, defScope s_p_is_table, []⟩)).elim fun fd F => ⟨_, fd, F, He.glo_ok X G (c.a 40)⟩
  d_p_require_cutter := (c.z 15 (d := ⟨aG "require_cutter", "require_cutter", "require_cutter", defArgs s_p_require_cutter, defBody s_p_require_cutter, defScope s_p_require_cutter, []⟩)).elim fun fd F => ⟨_, fd, F, He.glo_ok X G (c.a 41)⟩
  d_p_shared_start := (c.z 16 (d := ⟨aG "shared_start", "shared_start", "shared_start", defArgs s_p_shared_start, defBody s_p_shared_start, defScope s_p_shared_start, []⟩)).elim fun fd F => ⟨_, fd, F, He.glo_ok X G (c.a 42)⟩
  d_p_cuts_compared := (c.z 17 (d := ⟨aG "cuts_compared", "cuts_compared", "cuts_compared", defArgs s_p_cuts_compared, defBody s_p_cuts_compared, defScope s_p_cuts_compared, []⟩)).elim fun fd F => ⟨_, fd, F, He.glo_ok X G (c.a 43)⟩
  d_p_recut := (c.z 18 (d := ⟨aG "recut", "recut", "recut", defArgs s_p_recut, defBody s_p_recut, defScope s_p_recut, []⟩)).elim fun fd F => ⟨_, fd, F, He.glo_ok X G (c.a 44)⟩
  d_p_is_name := (c.z 19 (d := ⟨aG "is_name", "is_name", "is_name", defArgs s_p_is_name, defBody s_p_is_name, defScope s_p_is_name, []⟩)).elim fun fd F => ⟨_, fd, F, He.glo_ok X G (c.a 45)⟩
  d_p_require_call := (c.z 20 (d := ⟨aG "require_call", "require_call", "require_call", defArgs s_p_require_call, defBody s_p_require_call, defScope s_p_require_call, []⟩)).elim fun fd F => ⟨_, fd, F, He.glo_ok X G (c.a 46)⟩
  d_p_require_many := (c.z 21 (d := ⟨aG "require_many", "require_many", "require_many", defArgs s_p_require_many, defBody s_p_require_many, defScope s_p_require_many, []⟩)).elim fun fd F => ⟨_, fd, F, He.glo_ok X G (c.a 47)⟩
  d_reel := (c.z 22 (d := ⟨aG "_law_reel", "_law_reel", "_law_reel", defArgs s_reel, defBody s_reel, defScope s_reel, []⟩)).elim fun fd F => ⟨_, fd, F, He.glo_ok X G (c.a 48)⟩
  d_spin := (c.z 23 (d := ⟨aG "_law_spin", "_law_spin", "_law_spin", defArgs s_spin, defBody s_spin, defScope s_spin, []⟩)).elim fun fd F => ⟨_, fd, F, He.glo_ok X G (c.a 49)⟩
  d_pick := (c.z 24 (d := ⟨aG "_law_pick", "_law_pick", "_law_pick", defArgs s_pick, defBody s_pick, defScope s_pick, []⟩)).elim fun fd F => ⟨_, fd, F, He.glo_ok X G (c.a 50)⟩
  d_some := (c.z 25 (d := ⟨aG "_law_some", "_law_some", "_law_some", defArgs s_some, defBody s_some, defScope s_some, []⟩)).elim fun fd F => ⟨_, fd, F, He.glo_ok X G (c.a 51)⟩
  d_text := (c.z 26 (d := ⟨aG "_law_text", "_law_text", "_law_text", defArgs s_text, defBody s_text, defScope s_text, []⟩)).elim fun fd F => ⟨_, fd, F, He.glo_ok X G (c.a 52)⟩
  d_signs := (c.z 27 (d := ⟨aG "_law_signs", "_law_signs", "_law_signs", defArgs s_signs, defBody s_signs, defScope s_signs, []⟩)).elim fun fd F => ⟨_, fd, F, He.glo_ok X G (c.a 53)⟩
  d_prices := (c.z 28 (d := ⟨aG "_law_prices", "_law_prices", "_law_prices", defArgs s_prices, defBody s_prices, defScope s_prices, []⟩)).elim fun fd F => ⟨_, fd, F, He.glo_ok X G (c.a 54)⟩
  d_plan := (c.z 29 (d := ⟨aG "_law_plan", "_law_plan", "_law_plan", defArgs s_plan, defBody s_plan, defScope s_plan, []⟩)).elim fun fd F => ⟨_, fd, F, He.glo_ok X G (c.a 55)⟩
  d_cutter := (c.z 30 (d := ⟨aG "_law_cutter", "_law_cutter", "_law_cutter", defArgs s_cutter, defBody s_cutter, defScope s_cutter, []⟩)).elim fun fd F => ⟨_, fd, F, He.glo_ok X G (c.a 56)⟩
  d_tell := (c.z 31 (d := ⟨aG "_law_tell", "_law_tell", "_law_tell", defArgs s_tell, defBody s_tell, defScope s_tell, []⟩)).elim fun fd F => ⟨_, fd, F, He.glo_ok X G (c.a 57)⟩
  d_cut := (c.z 32 (d := ⟨aG "_law_cut", "_law_cut", "_law_cut", defArgs s_cut, defBody s_cut, defScope s_cut, []⟩)).elim fun fd F => ⟨_, fd, F, He.glo_ok X G (c.a 58)⟩
  d_price := (c.z 33 (d := ⟨aG "_law_price", "_law_price", "_law_price", defArgs s_price, defBody s_price, defScope s_price, []⟩)).elim fun fd F => ⟨_, fd, F, He.glo_ok X G (c.a 59)⟩
  d_alphabet := (c.z 34 (d := ⟨aG "_law_alphabet", "_law_alphabet", "_law_alphabet", defArgs s_alphabet, defBody s_alphabet, defScope s_alphabet, []⟩)).elim fun fd F => ⟨_, fd, F, He.glo_ok X G (c.a 60)⟩
  d_name := (c.z 35 (d := ⟨aG "_law_name", "_law_name", "_law_name", defArgs s_name, defBody s_name, defScope s_name, []⟩)).elim fun fd F => ⟨_, fd, F, He.glo_ok X G (c.a 61)⟩
  d_shelf_plan := (c.z 36 (d := ⟨aG "_law_shelf_plan", "_law_shelf_plan", "_law_shelf_plan", defArgs s_shelf_plan, defBody s_shelf_plan, defScope s_shelf_plan, []⟩)).elim fun fd F => ⟨_, fd, F, He.glo_ok X G (c.a 62)⟩
  d_span := (c.z 37 (d := ⟨aG "_law_span", "_law_span", "_law_span", defArgs s_span, defBody s_span, defScope s_span, []⟩)).elim fun fd F => ⟨_, fd, F, He.glo_ok X G (c.a 63)⟩
  d_walk := (c.z 38 (d := ⟨aG "_law_walk", "_law_walk", "_law_walk", defArgs s_walk, defBody s_walk, defScope s_walk, []⟩)).elim fun fd F => ⟨_, fd, F, He.glo_ok X G (c.a 64)⟩
  d_back_and_forth := (c.z 39 (d := ⟨aG "_law_back_and_forth", "_law_back_and_forth", "_law_back_and_forth", defArgs s_back_and_forth, defBody s_back_and_forth, defScope s_back_and_forth, []⟩)).elim fun fd F => ⟨_, fd, F, He.glo_ok X G (c.a 65)⟩
  d_others_right := (c.z 40 (d := ⟨aG "_law_others_right", "_law_others_right", "_law_others_right", defArgs s_others_right, defBody s_others_right, defScope s_others_right, []⟩)).elim fun fd F => ⟨_, fd, F, He.glo_ok X G (c.a 66)⟩
  d_law := (c.z 41 (d := ⟨aG "law", "law", "law", defArgs s_law, defBody s_law, defScope s_law, []⟩)).elim fun fd F => ⟨_, fd, F, He.glo_ok X G (c.a 67)⟩
  g_Book := He.glo_ok X G (c.a 68)
  cl_Book := He.cls_ok (c.a 69)
  no_Book_own_prices := He.noat_ok (c.a 70)
  no_Book_own_pieces := He.noat_ok (c.a 71)
  no_Book_own_alphabet := He.noat_ok (c.a 72)
  no_Book_own_longest := He.noat_ok (c.a 73)
  no_Book_own_dearest := He.noat_ok (c.a 74)
  m_Book_accepts := (c.z 42 (d := ⟨aM "Book" "accepts", "accepts", "Book.accepts", defArgs s_p_Book_accepts, defBody s_p_Book_accepts, defScope s_p_Book_accepts, []⟩)).elim fun fd F => ⟨_, fd, F, He.meth_ok (c.a 75)⟩
  g_Cutter := He.glo_ok X G (c.a 76)
  cl_Cutter := He.cls_ok (c.a 77)
  no_Cutter_own_book := He.noat_ok (c.a 78)
  no_Cutter_own_order := He.noat_ok (c.a 79)
  no_Cutter_own_view := He.noat_ok (c.a 80)
  no_Cutter_own_table := He.noat_ok (c.a 81)
  no_Cutter_own_ends := He.noat_ok (c.a 82)
  no_Cutter_own_sizes := He.noat_ok (c.a 83)
  m_Cutter_told_by := (c.z 43 (d := ⟨aM "Cutter" "told_by", "told_by", "Cutter.told_by", defArgs s_p_Cutter_told_by, defBody s_p_Cutter_told_by, defScope s_p_Cutter_told_by, []⟩)).elim fun fd F => ⟨_, fd, F, He.meth_ok (c.a 84)⟩
  m_Cutter_cut_in := (c.z 44 (d := ⟨aM "Cutter" "cut_in", "cut_in", "Cutter.cut_in", defArgs s_p_Cutter_cut_in, defBody s_p_Cutter_cut_in, defScope s_p_Cutter_cut_in, []⟩)).elim fun fd F => ⟨_, fd, F, He.meth_ok (c.a 85)⟩
  m_Cutter_price_in := (c.z 45 (d := ⟨aM "Cutter" "price_in", "price_in", "Cutter.price_in", defArgs s_p_Cutter_price_in, defBody s_p_Cutter_price_in, defScope s_p_Cutter_price_in, []⟩)).elim fun fd F => ⟨_, fd, F, He.meth_ok (c.a 86)⟩
  m_Cutter_cut := (c.z 46 (d := ⟨aM "Cutter" "cut", "cut", "Cutter.cut", defArgs s_p_Cutter_cut, defBody s_p_Cutter_cut, defScope s_p_Cutter_cut, []⟩)).elim fun fd F => ⟨_, fd, F, He.meth_ok (c.a 87)⟩
  m_Cutter_behind := (c.z 47 (d := ⟨aM "Cutter" "behind", "behind", "Cutter.behind", defArgs s_p_Cutter_behind, defBody s_p_Cutter_behind, defScope s_p_Cutter_behind, []⟩)).elim fun fd F => ⟨_, fd, F, He.meth_ok (c.a 88)⟩
  g_Shelf := He.glo_ok X G (c.a 89)
  cl_Shelf := He.cls_ok (c.a 90)
  no_Shelf_own_cutter := He.noat_ok (c.a 91)
  no_Shelf_own_texts := He.noat_ok (c.a 92)
  no_Shelf_own_sums := He.noat_ok (c.a 93)
  no_Shelf_own_done := He.noat_ok (c.a 94)
  no_Shelf_own_undone := He.noat_ok (c.a 95)
  no_Shelf_own_block := He.noat_ok (c.a 96)
  no_Shelf_own_entry := He.noat_ok (c.a 97)
  no_Shelf_own_watchers := He.noat_ok (c.a 98)
  m_Shelf_require_near := (c.z 48 (d := ⟨aM "Shelf" "require_near", "require_near", "Shelf.require_near", defArgs s_p_Shelf_require_near, defBody s_p_Shelf_require_near, defScope s_p_Shelf_require_near, []⟩)).elim fun fd F => ⟨_, fd, F, He.meth_ok (c.a 99)⟩
  m_Shelf_most_behind := (c.z 49 (d := ⟨aM "Shelf" "most_behind", "most_behind", "Shelf.most_behind", defArgs s_p_Shelf_most_behind, defBody s_p_Shelf_most_behind, defScope s_p_Shelf_most_behind, []⟩)).elim fun fd F => ⟨_, fd, F, He.meth_ok (c.a 100)⟩
  m_Shelf_require_known := (c.z 50 (d := ⟨aM "Shelf" "require_known", "require_known", "Shelf.require_known", defArgs s_p_Shelf_require_known, defBody s_p_Shelf_require_known, defScope s_p_Shelf_require_known, []⟩)).elim fun fd F => ⟨_, fd, F, He.meth_ok (c.a 101)⟩
  m_Shelf_require_no_block := (c.z 51 (d := ⟨aM "Shelf" "require_no_block", "require_no_block", "Shelf.require_no_block", defArgs s_p_Shelf_require_no_block, defBody s_p_Shelf_require_no_block, defScope s_p_Shelf_require_no_block, []⟩)).elim fun fd F => ⟨_, fd, F, He.meth_ok (c.a 102)⟩
  m_Shelf_weigh := (c.z 52 (d := ⟨aM "Shelf" "weigh", "weigh", "Shelf.weigh", defArgs s_p_Shelf_weigh, defBody s_p_Shelf_weigh, defScope s_p_Shelf_weigh, []⟩)).elim fun fd F => ⟨_, fd, F, He.meth_ok (c.a 103)⟩
  m_Shelf_move := (c.z 53 (d := ⟨aM "Shelf" "move", "move", "Shelf.move", defArgs s_p_Shelf_move, defBody s_p_Shelf_move, defScope s_p_Shelf_move, []⟩)).elim fun fd F => ⟨_, fd, F, He.meth_ok (c.a 104)⟩
  m_Shelf_change := (c.z 54 (d := ⟨aM "Shelf" "change", "change", "Shelf.change", defArgs s_p_Shelf_change, defBody s_p_Shelf_change, defScope s_p_Shelf_change, []⟩)).elim fun fd F => ⟨_, fd, F, He.meth_ok (c.a 105)⟩
  m_Shelf_put := (c.z 55 (d := ⟨aM "Shelf" "put", "put", "Shelf.put", defArgs s_p_Shelf_put, defBody s_p_Shelf_put, defScope s_p_Shelf_put, []⟩)).elim fun fd F => ⟨_, fd, F, He.meth_ok (c.a 106)⟩
  m_Shelf_drop := (c.z 56 (d := ⟨aM "Shelf" "drop", "drop", "Shelf.drop", defArgs s_p_Shelf_drop, defBody s_p_Shelf_drop, defScope s_p_Shelf_drop, []⟩)).elim fun fd F => ⟨_, fd, F, He.meth_ok (c.a 107)⟩
  m_Shelf_edit := (c.z 57 (d := ⟨aM "Shelf" "edit", "edit", "Shelf.edit", defArgs s_p_Shelf_edit, defBody s_p_Shelf_edit, defScope s_p_Shelf_edit, []⟩)).elim fun fd F => ⟨_, fd, F, He.meth_ok (c.a 108)⟩
  m_Shelf_watch := (c.z 58 (d := ⟨aM "Shelf" "watch", "watch", "Shelf.watch", defArgs s_p_Shelf_watch, defBody s_p_Shelf_watch, defScope s_p_Shelf_watch, []⟩)).elim fun fd F => ⟨_, fd, F, He.meth_ok (c.a 109)⟩
  m_Shelf_undo := (c.z 59 (d := ⟨aM "Shelf" "undo", "undo", "Shelf.undo", defArgs s_p_Shelf_undo, defBody s_p_Shelf_undo, defScope s_p_Shelf_undo, [("many", .int 1)]⟩)).elim fun fd F => ⟨_, fd, F, He.meth_ok (c.a 110)⟩
  m_Shelf_redo := (c.z 60 (d := ⟨aM "Shelf" "redo", "redo", "Shelf.redo", defArgs s_p_Shelf_redo, defBody s_p_Shelf_redo, defScope s_p_Shelf_redo, [("many", .int 1)]⟩)).elim fun fd F => ⟨_, fd, F, He.meth_ok (c.a 111)⟩
  n_BC := bDi_ok (c.b 0)
  n_BF := bDi_ok (c.b 1)
  n_CF := bDi_ok (c.b 2)
  i_Book := (c.z 61 (d := ⟨aM "Book" "__init__", "__init__", "Book.__init__", defArgs s_p_Book___init__, defBody s_p_Book___init__, defScope s_p_Book___init__, []⟩)).elim fun fd F => ⟨_, fd, He.mkr_ok (c.a 112), F, He.glo_ok X G (c.a 68)⟩
  ne_Book := bNe_ok (c.b 3)
  is_Book := bIs_ok (c.b 4)
  i_Cutter := (c.z 62 (d := ⟨aM "Cutter" "__init__", "__init__", "Cutter.__init__", defArgs s_p_Cutter___init__, defBody s_p_Cutter___init__, defScope s_p_Cutter___init__, [("view", .non), ("table", .non), ("ends", .non)]⟩)).elim fun fd F => ⟨_, fd, He.mkr_ok (c.a 113), F, He.glo_ok X G (c.a 76)⟩
  ne_Cutter := bNe_ok (c.b 5)
  is_Cutter := bIs_ok (c.b 6)
  i_Shelf := (c.z 63 (d := ⟨aM "Shelf" "__init__", "__init__", "Shelf.__init__", defArgs s_p_Shelf___init__, defBody s_p_Shelf___init__, defScope s_p_Shelf___init__, [("texts", .non)]⟩)).elim fun fd F => ⟨_, fd, He.mkr_ok (c.a 114), F, He.glo_ok X G (c.a 89)⟩
  ne_Shelf := bNe_ok (c.b 7)
  is_Shelf := bIs_ok (c.b 8)
  s_Book___eq__ := (c.z 64 (d := ⟨aM "Book" "__eq__", "__eq__", "Book.__eq__", defArgs s_p_Book___eq__, defBody s_p_Book___eq__, defScope s_p_Book___eq__, []⟩)).elim fun fd F => ⟨_, fd, (He.meth_ok (c.a 115)).at_, (He.meth_ok (c.a 115)).fn, F⟩
  s_Cutter___eq__ := (c.z 65 (d := ⟨aM "Cutter" "__eq__", "__eq__", "Cutter.__eq__", defArgs s_p_Cutter___eq__, defBody s_p_Cutter___eq__, defScope s_p_Cutter___eq__, []⟩)).elim fun fd F => ⟨_, fd, (He.meth_ok (c.a 116)).at_, (He.meth_ok (c.a 116)).fn, F⟩
  s_Shelf___eq__ := (c.z 66 (d := ⟨aM "Shelf" "__eq__", "__eq__", "Shelf.__eq__", defArgs s_p_Shelf___eq__, defBody s_p_Shelf___eq__, defScope s_p_Shelf___eq__, []⟩)).elim fun fd F => ⟨_, fd, (He.meth_ok (c.a 117)).at_, (He.meth_ok (c.a 117)).fn, F⟩
  s_Shelf___len__ := (c.z 67 (d := ⟨aM "Shelf" "__len__", "__len__", "Shelf.__len__", defArgs s_p_Shelf___len__, defBody s_p_Shelf___len__, defScope s_p_Shelf___len__, []⟩)).elim fun fd F => ⟨_, fd, (He.meth_ok (c.a 118)).at_, (He.meth_ok (c.a 118)).fn, F⟩
  s_Shelf___str__ := (c.z 68 (d := ⟨aM "Shelf" "__str__", "__str__", "Shelf.__str__", defArgs s_p_Shelf___str__, defBody s_p_Shelf___str__, defScope s_p_Shelf___str__, []⟩)).elim fun fd F => ⟨_, fd, (He.meth_ok (c.a 119)).at_, (He.meth_ok (c.a 119)).fn, F⟩
  p_Shelf_names := (c.z 69 (d := ⟨aP "Shelf" "names", "names", "Shelf.names", defArgs s_p_Shelf_names, defBody s_p_Shelf_names, defScope s_p_Shelf_names, []⟩)).elim fun fd F => ⟨_, _, fd, bP_ok (c.b 10), F⟩
  p_Shelf_texts := (c.z 70 (d := ⟨aP "Shelf" "texts", "texts", "Shelf.texts", defArgs s_p_Shelf_texts, defBody s_p_Shelf_texts, defScope s_p_Shelf_texts, []⟩)).elim fun fd F => ⟨_, _, fd, bP_ok (c.b 11), F⟩
  p_Shelf_total := (c.z 71 (d := ⟨aP "Shelf" "total", "total", "Shelf.total", defArgs s_p_Shelf_total, defBody s_p_Shelf_total, defScope s_p_Shelf_total, []⟩)).elim fun fd F => ⟨_, _, fd, bP_ok (c.b 12), F⟩
  p_Shelf_lag := (c.z 72 (d := ⟨aP "Shelf" "lag", "lag", "Shelf.lag", defArgs s_p_Shelf_lag, defBody s_p_Shelf_lag, defScope s_p_Shelf_lag, []⟩)).elim fun fd F => ⟨_, _, fd, bP_ok (c.b 13), F⟩
theorem dc_plan {K : Fg} {h : Heap} {mg : Str → Option Value} (X : K.In h) (G : h.Ns mainGlobals mg) (c : SaysZ fa84 fb84 fz84 tf84 h K) : DefC K mg "_law_plan" s_plan (tabA K (aG "_law_plan")).1 :=
  (c.z 29 (d := ⟨aG "_law_plan", "_law_plan", "_law_plan", defArgs s_plan, defBody s_plan, defScope s_plan, []⟩)).elim fun fd F => ⟨_, fd, F, He.glo_ok X G (c.a 55), codeA_of F⟩
theorem dc_law {K : Fg} {h : Heap} {mg : Str → Option Value} (X : K.In h) (G : h.Ns mainGlobals mg) (c : SaysZ fa84 fb84 fz84 tf84 h K) : DefC K mg "law" s_law (tabA K (aG "law")).1 :=
  (c.z 41 (d := ⟨aG "law", "law", "law", defArgs s_law, defBody s_law, defScope s_law, []⟩)).elim fun fd F => ⟨_, fd, F, He.glo_ok X G (c.a 67), codeA_of F⟩
theorem tn84 {K : Fg} {h : Heap} (c : SaysZ fa84 fb84 fz84 tf84 h K) : (tabA K (aG "_law_plan")).2 ≠ (tabA K (aG "law")).2 := bTn_ok (c.b 9)
end K75
-- part Y3
set_option Elab.async false
set_option linter.all false
set_option maxRecDepth 100000
set_option maxHeartbeats 0
namespace K75
open PySem PySem.W PySem.Calls PyProof.Rows
abbrev R84 : OpenRow := OpenLaw.row PySem.Challenge.rw_cutbehind_k84_whole_two_ways_to_a_shelf
abbrev qv84 : Program := view R84.prog [79]
def names84 : List PySem.Str := (["_wall", "__name__", "TEXT_SIGNS", "PIECE_SIGNS", "is_integer", "is_integer_within", "is_word", "is_text", "is_piece", "is_ascending", "CutError", "InvalidText", "InvalidBook", "InvalidCutter", "InvalidOperation", "UnknownPiece", "UnknownText", "NothingToUndo", "TooMany", "InvalidNumber", "MAX_SIGNS", "MAX_PIECES", "MAX_ALPHABET", "MAX_PRICE", "is_price", "are_prices", "are_pairs", "are_pieces_of", "is_text_over", "require_book"] : List PySem.Str) ++ (["require_text", "require_other", "result_of", "Book", "prices_along", "cheapest_price_in", "MAX_VIEW", "MAX_WINDOWS", "is_order", "is_view", "is_table", "require_cutter", "Cutter", "shared_start", "cuts_compared", "recut", "MAX_TEXTS", "MAX_NAME", "is_name", "require_call", "require_many", "Group", "Shelf", "_law_reel", "_law_spin", "_law_pick", "_law_some", "_law_text", "_law_signs", "_law_prices"] : List PySem.Str) ++ (["_law_plan", "_law_cutter", "_law_tell", "_law_cut", "_law_price", "_law_alphabet", "_law_name", "_law_shelf_plan", "_law_span", "_law_walk", "_law_back_and_forth", "_law_others_right"] : List PySem.Str)
abbrev hk84 : PySem.W.Hook := hookZ rs84 fa84 fb84 fz84 tf84
def ob84 (s : PySem.W.SharedT) : AZ := obsZ rs84 fa84 fb84 fz84 tf84 (HandSHeadRun.getT s)
theorem ob84_eq (s : PySem.W.SharedT) : ob84 s = hk84.obs s.abs := obsZ_eq (HandSHeadRun.getT_eq s)
theorem run84 (w : World) : HandSHeadRun.RunEq R84 qv84 hk84 ob84 16000 names84 w := by
  intro os
  kernel_rfl
end K75
-- part Y4
set_option Elab.async false
set_option linter.all false
set_option maxRecDepth 100000
set_option maxHeartbeats 0
namespace K75
open PySem PySem.W PySem.Calls PyProof.Rows L2
/-- the end: what the law leaves, from the head's facts -/
theorem walkZ {l : PySem.W.OpenLaw} {n k : Nat} {q : Program} {loose : List PySem.Str} {XP : (PySem.Str → Option Value) → Heap → Prop} {d : DefRec} {rs : List (Gt → Addr)} {fa : List He.Fa} {fb : List (Fg → Bool)} {fz : List DZ} {tf : List (Fg → Addr)} {sp : Fg → Sp}
    (hn : l.most = some n) (hn2 : n ≤ sizeLine) (hdf : d.params.defaults = []) (hr : Room k callerA)
    (F : ∀ (w : World) (mg : PySem.Str → Option Value) (h base : Heap) (K : Fg), K.In h → h.Ns mainGlobals mg → SaysZ fa fb fz tf h K → K.In base → (∀ f ∈ tf, LamX.TabB base mg (tabA K f).1 (tabA K f).2) → C8.Cal l.prog w K mg base k d.name (sp K) [])
    (hsp : ∀ (K : Fg) (H : Hp) (a : Addr) (ns : List Int), ns.length ≤ n → (∀ z ∈ ns, Builtin.Int.intBits z ≤ 1048576) → (∀ f ∈ tf, H (tabA K f).2 = some (.tbl #[])) → SqX K H a (ns.map V.int) → sp K [.ref a] H (fun v _ => v = .bl true) E0) :
    PySem.W.WalkO q loose XP (hookZ rs fa fb fz tf).says l.row.toRowW d [] (fun f vs => PySem.call f vs) := by
  refine Att.attach_callB hn hdf fun w s₀ s₁ mg mb f o pm cd doc a vs ns G Y ho hd hcd hmg hobj hints hlen hbits hg => ?_
  obtain ⟨K, KX, c⟩ := Y
  have mem : ∀ p ∈ tf.map (fun f => tabA K f), ∃ f ∈ tf, p = tabA K f := fun p hp => by
    obtain ⟨f, hf, e⟩ := List.mem_map.mp hp
    exact ⟨f, hf, e.symm⟩
  refine law_endX (cs := tf.map fun f => tabA K f) (sp := sp K) KX G.T.g G.T.b G.T.builtins G.T.nolimit hg (fun p hp => ?_) (fun p hp => ?_) (fun p hp => ?_) G.T.bmain hobj hints (Nat.le_trans hlen hn2) hr (fun base kb _ tb => ?_) (fun H hT sq => hsp K H a ns hlen hbits (fun f hf => hT _ (List.mem_map_of_mem hf)) sq)
  · obtain ⟨f, hf, rfl⟩ := mem p hp
    exact c.empty f hf
  · obtain ⟨f, hf, rfl⟩ := mem p hp
    exact c.out f hf
  · obtain ⟨f, hf, rfl⟩ := mem p hp
    exact codeHd_of_K KX (c.hd f hf)
  · obtain ⟨g, fd, ps, ds, F2, h1, _, b2, d2⟩ := (F w mg s₁.heap base K KX G.T.g c kb (fun f hf => tb _ (List.mem_map_of_mem hf))).ex
    have e := hmg.symm.trans h1
    cases e
    exact fun A outer s2 H2 us vs2 Q E _ hr2 e0 r2 h => F2.raw b2 d2 A outer s2 H2 us vs2 Q E hr2 e0 r2 (by show sp K (vs2 ++ []) H2 Q E; rw [List.append_nil]; exact h)
abbrev Ts84 (K : Fg) : List (Addr × PySem.Str) := [((tabA K (aG "_law_plan")).2, lamQ "_law_plan"), ((tabA K (aG "law")).2, lamQ "law")]
theorem tabS0 {H : Hp} {p : Addr} {q : PySem.Str} (h : H p = some (.tbl #[])) : LamX.TabS H p q := ⟨#[], h, trivial, fun pos cv hc => by cases hc⟩
end K75
open PySem PySem.W PySem.Calls PyProof.Rows
theorem PySem.Challenge.cw_cutbehind_k84_whole_two_ways_to_a_shelf_holds : PySem.Challenge.rw_cutbehind_k84_whole_two_ways_to_a_shelf.Holds := by
  w_on; o_law
  refine HandSHeadRun.head_any (r := OpenLaw.row PySem.Challenge.rw_cutbehind_k84_whole_two_ways_to_a_shelf) (q := K75.qv84) (H := K75.hk84) (ob := K75.ob84) (M := 16000) (loose := K75.names84) (d := HandSHeadRun.topDef (OpenLaw.row PySem.Challenge.rw_cutbehind_k84_whole_two_ways_to_a_shelf).prog 79) (kwd := []) K75.ob84_eq
    (by kernel_rfl) (fun s => by kernel_rfl) K75.run84 (by kernel_rfl) (by kernel_rfl) (by kernel_rfl) (by rfl) (by first | assumption | decide +kernel) (by decide +kernel) ⟨rfl, rfl, rfl, rfl, rfl, by decide +kernel⟩ ?hw ?hc
  case hw => w_witness2
  case hc =>
    refine K75.walkZ (l := PySem.Challenge.rw_cutbehind_k84_whole_two_ways_to_a_shelf) (n := 63) (k := 11) (sp := fun K => K75.sp_law K (K75.Ts84 K)) rfl (by decide) (by kernel_rfl) ⟨rfl, by decide, by decide⟩ (fun w mg h base K KX G c kb tb => ?_) (fun K H a ns hl hb hT sq => ?_)
    · have T := K75.ty_of KX G c
      have tn := K75.tn84 c
      refine K75.c_law T (Ts := K75.Ts84 K) (K75.dc_plan KX G c) (tb _ (List.mem_cons_self ..)) (List.mem_cons_self ..) (fun p hp e => ?_) (K75.dc_law KX G c) (tb _ (List.mem_cons_of_mem _ (List.mem_cons_self ..))) (List.mem_cons_of_mem _ (List.mem_cons_self ..)) (fun p hp e => ?_)
      · rcases List.mem_cons.mp hp with z | z
        · rw [z]
        · rw [List.mem_singleton.mp z] at e
          exact absurd e.symm tn
      · rcases List.mem_cons.mp hp with z | z
        · rw [z] at e
          exact absurd e tn
        · rw [List.mem_singleton.mp z]
    · refine ⟨a, ns, rfl, sq, fun p hp => ?_, fun _ => rfl⟩
      rcases List.mem_cons.mp hp with z | z
      · rw [z]
        exact K75.tabS0 (hT _ (List.mem_cons_self ..))
      · rw [List.mem_singleton.mp z]
        exact K75.tabS0 (hT _ (List.mem_cons_of_mem _ (List.mem_cons_self ..)))
#print axioms PySem.Challenge.cw_cutbehind_k84_whole_two_ways_to_a_shelf_holds
